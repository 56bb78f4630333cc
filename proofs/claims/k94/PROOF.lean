import PyProof.Rows.All
import HandS.ForMost
import HandS.Defaults
import HandS.Exc
import HandS.Wide
import HandS.Gcd
import HandS.HeadHook2
import HandS.IsInst
import HandS.More
import HandS.SortInts
import HandS.Conv
import KE.SortData
import HandS.TupLen
import HandS.Small
import HandS.Head0
import HandS.Head1
import HandS.Head2
import HandS.Head3
import HandS.HeadEnd
import HandS.HeadHook1
import HandS.HeadHook3
import HandS.HeadHook4
import HandS.DictComp
import HandS.SortRule
import HandS.DictTup
import KE.DataCmp
import HandS.TupSets
import HandS.Strs
import PySem.Challenge.RW_pairsave_k94_whole_cheapest_covers
import KE.DatumOrd
import Wide.All
import OpenK.AllK
import Wide.FinOn
import KE.KStateDown
set_option Elab.async false
set_option linter.all false
set_option maxRecDepth 100000
set_option maxHeartbeats 0
/-! DL1: data, what represents them, the state's relation. -/
namespace DL
open PySem PySem.Spec L2
set_option autoImplicit false
abbrev Frag := PySem.W.Frag
/-- a value as a tree of data -/
inductive D where
  | non | bl (b : Bool) | int (i : Int) | str (x : Str) | tup (xs : List D) | lst (xs : List D) | dic (t : Bool) (kvs : List (D × D)) | set (xs : List D)
def kD : Key → D
  | .inl i => .int i
  | .inr x => .str x
def KT (K : Frag) (a : Addr) (xs : List V) : Prop := ∃ (o : Obj) (its : Array Value) (n : Nat), K.lookup a = some o ∧ o.cls = .type "tuple" ∧ o.data = .seq its n ∧ its.size ≤ sizeLine ∧ Vals xs its.toList
def KL (K : Frag) (a : Addr) (xs : List V) : Prop := ∃ (o : Obj) (its : Array Value) (n : Nat), K.lookup a = some o ∧ o.cls = .type "list" ∧ o.dict = none ∧ o.data = .seq its n ∧ its.size ≤ sizeLine ∧ Vals xs its.toList
def TAt (K : Frag) (F : Hp) (a : Addr) (xs : List V) : Prop := F a = some (.tup xs) ∨ KT K a xs
def LAt (K : Frag) (F : Hp) (a : Addr) (xs : List V) : Prop := F a = some (.lst xs) ∨ KL K a xs
mutual
def Rep (K : Frag) (F : Hp) : D → V → Prop
  | .non, v => v = .non
  | .bl b, v => v = .bl b
  | .int i, v => v = .int i
  | .str x, v => v = .str x
  | .tup ds, v => ∃ a vs, v = .ref a ∧ TAt K F a vs ∧ Reps K F ds vs
  | .lst ds, v => ∃ a vs, v = .ref a ∧ LAt K F a vs ∧ Reps K F ds vs
  | .dic t kvs, v => ∃ a, v = .ref a ∧ ((t = false ∧ ∃ l, F a = some (.dK l) ∧ RepK K F kvs l) ∨ (t = true ∧ ∃ l, F a = some (.dT l) ∧ RepT K F kvs l))
  | .set _, _ => False
def Reps (K : Frag) (F : Hp) : List D → List V → Prop
  | [], vs => vs = []
  | d :: ds, vs => ∃ v r, vs = v :: r ∧ Rep K F d v ∧ Reps K F ds r
def RepK (K : Frag) (F : Hp) : List (D × D) → List (Key × V) → Prop
  | [], l => l = []
  | (k, d) :: ds, l => ∃ k' v r, l = (k', v) :: r ∧ k = kD k' ∧ Rep K F d v ∧ RepK K F ds r
def RepT (K : Frag) (F : Hp) : List (D × D) → List (List Key × V) → Prop
  | [], l => l = []
  | (k, d) :: ds, l => ∃ k' v r, l = (k', v) :: r ∧ k = .tup (k'.map kD) ∧ Rep K F d v ∧ RepT K F ds r
end
def FLe (F F' : Hp) : Prop := ∀ a u, F a = some u → F' a = some u
theorem FLe.refl {F : Hp} : FLe F F := fun _ _ h => h
theorem FLe.trans {F G H : Hp} (a : FLe F G) (b : FLe G H) : FLe F H := fun c u h => b c u (a c u h)
theorem FLe.upd {F : Hp} {p : Addr} {o : HO} (h : F p = none) : FLe F (upd F p o) := fun b u e => by
  rw [upd_ne (ne_of_none e h)]; exact e
theorem TAt.mono {K : Frag} {F F' : Hp} {a : Addr} {xs : List V} (l : FLe F F') (h : TAt K F a xs) : TAt K F' a xs := h.imp (l _ _) id
theorem LAt.mono {K : Frag} {F F' : Hp} {a : Addr} {xs : List V} (l : FLe F F') (h : LAt K F a xs) : LAt K F' a xs := h.imp (l _ _) id
mutual
theorem Rep.mono {K : Frag} {F F' : Hp} (l : FLe F F') : ∀ (d : D) (v : V), Rep K F d v → Rep K F' d v
  | .non, v, h => h
  | .bl _, v, h => h
  | .int _, v, h => h
  | .str _, v, h => h
  | .tup ds, v, h => by
    obtain ⟨a, vs, e, t, r⟩ := h
    exact ⟨a, vs, e, t.mono l, Reps.mono l ds vs r⟩
  | .lst ds, v, h => by
    obtain ⟨a, vs, e, t, r⟩ := h
    exact ⟨a, vs, e, t.mono l, Reps.mono l ds vs r⟩
  | .dic b kvs, v, h => by
    obtain ⟨a, e, h⟩ := h
    rcases h with ⟨hb, m, t, r⟩ | ⟨hb, m, t, r⟩
    · exact ⟨a, e, .inl ⟨hb, m, l _ _ t, RepK.mono l kvs m r⟩⟩
    · exact ⟨a, e, .inr ⟨hb, m, l _ _ t, RepT.mono l kvs m r⟩⟩
  | .set _, v, h => h
theorem Reps.mono {K : Frag} {F F' : Hp} (l : FLe F F') : ∀ (ds : List D) (vs : List V), Reps K F ds vs → Reps K F' ds vs
  | [], vs, h => h
  | d :: ds, vs, h => by
    obtain ⟨v, r, e, a, b⟩ := h
    exact ⟨v, r, e, Rep.mono l d v a, Reps.mono l ds r b⟩
theorem RepK.mono {K : Frag} {F F' : Hp} (l : FLe F F') : ∀ (ds : List (D × D)) (vs : List (Key × V)), RepK K F ds vs → RepK K F' ds vs
  | [], vs, h => h
  | (k, d) :: ds, vs, h => by
    obtain ⟨k', v, r, e, e2, a, b⟩ := h
    exact ⟨k', v, r, e, e2, Rep.mono l d v a, RepK.mono l ds r b⟩
theorem RepT.mono {K : Frag} {F F' : Hp} (l : FLe F F') : ∀ (ds : List (D × D)) (vs : List (List Key × V)), RepT K F ds vs → RepT K F' ds vs
  | [], vs, h => h
  | (k, d) :: ds, vs, h => by
    obtain ⟨k', v, r, e, e2, a, b⟩ := h
    exact ⟨k', v, r, e, e2, Rep.mono l d v a, RepT.mono l ds r b⟩
end
section
variable {K : Frag} {F : Hp}
theorem Reps.length : ∀ {ds : List D} {vs : List V}, Reps K F ds vs → vs.length = ds.length
  | [], vs, h => by rw [show vs = [] from h]; rfl
  | d :: ds, vs, h => by
    obtain ⟨v, r, e, a, b⟩ := h
    rw [e, List.length_cons, List.length_cons, Reps.length b]
theorem Reps.get : ∀ {ds : List D} {vs : List V} {i : Nat} {d : D}, Reps K F ds vs → ds[i]? = some d → ∃ v, vs[i]? = some v ∧ Rep K F d v
  | [], vs, i, d, h, e => by simp at e
  | d0 :: ds, vs, 0, d, h, e => by
    obtain ⟨v, r, e1, a, b⟩ := h
    have : d0 = d := by simpa using e
    subst this
    exact ⟨v, by rw [e1]; rfl, a⟩
  | d0 :: ds, vs, i + 1, d, h, e => by
    obtain ⟨v, r, e1, a, b⟩ := h
    obtain ⟨w, h1, h2⟩ := Reps.get (i := i) b (by simpa using e)
    exact ⟨w, by rw [e1]; simpa using h1, h2⟩
theorem Reps.get' {ds : List D} {vs : List V} {i : Nat} {v : V} (h : Reps K F ds vs) (e : vs[i]? = some v) : ∃ d, ds[i]? = some d ∧ Rep K F d v := by
  have hl := h.length
  have hi : i < ds.length := by rw [← hl]; exact (List.getElem?_eq_some_iff.mp e).1
  obtain ⟨w, h1, h2⟩ := h.get (List.getElem?_eq_getElem hi)
  rw [e] at h1
  cases h1
  exact ⟨_, List.getElem?_eq_getElem hi, h2⟩
theorem Reps.append : ∀ {ds es : List D} {vs ws : List V}, Reps K F ds vs → Reps K F es ws → Reps K F (ds ++ es) (vs ++ ws)
  | [], es, vs, ws, h, k => by rw [show vs = [] from h]; exact k
  | d :: ds, es, vs, ws, h, k => by
    obtain ⟨v, r, e, a, b⟩ := h
    subst e
    exact ⟨v, r ++ ws, rfl, a, b.append k⟩
theorem Reps.one {d : D} {v : V} (h : Rep K F d v) : Reps K F [d] [v] := ⟨v, [], rfl, h, rfl⟩
theorem Reps.set : ∀ {ds : List D} {vs : List V} {d : D} {v : V} (i : Nat), Reps K F ds vs → Rep K F d v → Reps K F (ds.set i d) (vs.set i v)
  | [], vs, d, v, i, h, k => by rw [show vs = [] from h]; rfl
  | d0 :: ds, vs, d, v, 0, h, k => by
    obtain ⟨v0, r, e, a, b⟩ := h
    subst e
    exact ⟨v, r, rfl, k, b⟩
  | d0 :: ds, vs, d, v, i + 1, h, k => by
    obtain ⟨v0, r, e, a, b⟩ := h
    subst e
    exact ⟨v0, r.set i v, rfl, a, Reps.set i b k⟩
theorem Reps.take : ∀ {ds : List D} {vs : List V} (n : Nat), Reps K F ds vs → Reps K F (ds.take n) (vs.take n)
  | [], vs, n, h => by rw [show vs = [] from h]; simp [Reps]
  | d :: ds, vs, 0, h => rfl
  | d :: ds, vs, n + 1, h => by
    obtain ⟨v0, r, e, a, b⟩ := h
    subst e
    exact ⟨v0, r.take n, rfl, a, b.take n⟩
theorem Reps.drop : ∀ {ds : List D} {vs : List V} (n : Nat), Reps K F ds vs → Reps K F (ds.drop n) (vs.drop n)
  | [], vs, n, h => by rw [show vs = [] from h]; simp [Reps]
  | d :: ds, vs, 0, h => h
  | d :: ds, vs, n + 1, h => by
    obtain ⟨v0, r, e, a, b⟩ := h
    subst e
    exact b.drop n
theorem Reps.eraseIdx : ∀ {ds : List D} {vs : List V} (n : Nat), Reps K F ds vs → Reps K F (ds.eraseIdx n) (vs.eraseIdx n)
  | [], vs, n, h => by rw [show vs = [] from h]; simp [Reps]
  | d :: ds, vs, 0, h => by
    obtain ⟨v0, r, e, a, b⟩ := h
    subst e
    exact b
  | d :: ds, vs, n + 1, h => by
    obtain ⟨v0, r, e, a, b⟩ := h
    subst e
    exact ⟨v0, r.eraseIdx n, rfl, a, b.eraseIdx n⟩
theorem Reps.reverse : ∀ {ds : List D} {vs : List V}, Reps K F ds vs → Reps K F ds.reverse vs.reverse
  | [], vs, h => by rw [show vs = [] from h]; rfl
  | d :: ds, vs, h => by
    obtain ⟨v0, r, e, a, b⟩ := h
    subst e
    rw [List.reverse_cons, List.reverse_cons]
    exact b.reverse.append (.one a)
theorem Reps.ints : ∀ {ns : List Int}, Reps K F (ns.map D.int) (ns.map V.int)
  | [] => rfl
  | n :: ns => ⟨.int n, ns.map V.int, rfl, rfl, Reps.ints⟩
end
/-! ### the state -/
abbrev Ev := List (Option D)
/-- what is laid down for a def's run: the heap and the frozen part at its entry, the slots whose objects the caller lent, the dicts that are locked -/
structure Gh where
  H0 : Hp
  F0 : Hp
  pn : List (Nat × Addr)
  lk : List (Addr × Obj × HO)
  kt : List Nat := []
/-- an object that a slot owns -/
def OwnD (K : Frag) (F H : Hp) (a : Addr) : D → Prop
  | .lst ds => ∃ vs, H a = some (.lst vs) ∧ Reps K F ds vs
  | .dic t kvs => (t = false ∧ ∃ l, H a = some (.dK l) ∧ RepK K F kvs l) ∨ (t = true ∧ ∃ l, H a = some (.dT l) ∧ RepT K F kvs l)
  | _ => False
theorem OwnD.mono {K : Frag} {F F' H : Hp} {a : Addr} (l : FLe F F') : ∀ {d : D}, OwnD K F H a d → OwnD K F' H a d
  | .lst ds, ⟨vs, h, r⟩ => ⟨vs, h, Reps.mono l _ _ r⟩
  | .dic t kvs, h => by
    rcases h with ⟨ht, m, h, r⟩ | ⟨ht, m, h, r⟩
    · exact .inl ⟨ht, m, h, RepK.mono l _ _ r⟩
    · exact .inr ⟨ht, m, h, RepT.mono l _ _ r⟩
theorem OwnD.heap {K : Frag} {F H H' : Hp} {a : Addr} (e : H' a = H a) : ∀ {d : D}, OwnD K F H a d → OwnD K F H' a d
  | .lst ds, ⟨vs, h, r⟩ => ⟨vs, e.trans h, r⟩
  | .dic t kvs, h => by
    rcases h with ⟨ht, m, h, r⟩ | ⟨ht, m, h, r⟩
    · exact .inl ⟨ht, m, e.trans h, r⟩
    · exact .inr ⟨ht, m, e.trans h, r⟩
theorem OwnD.there {K : Frag} {F H : Hp} {a : Addr} : ∀ {d : D}, OwnD K F H a d → ∃ o, H a = some o ∧ Mut (some o)
  | .lst ds, ⟨vs, h, r⟩ => ⟨_, h, trivial⟩
  | .dic t kvs, h => by
    rcases h with ⟨ht, m, h, r⟩ | ⟨ht, m, h, r⟩
    · exact ⟨_, h, trivial⟩
    · exact ⟨_, h, trivial⟩
/-- frozen: from now on data -/
theorem OwnD.rep {K : Frag} {F H F' : Hp} {a : Addr} (l : FLe F F') (e : F' a = H a) : ∀ {d : D}, OwnD K F H a d → Rep K F' d (.ref a)
  | .lst ds, ⟨vs, h, r⟩ => ⟨a, vs, rfl, .inl (e.trans h), Reps.mono l _ _ r⟩
  | .dic t kvs, h => by
    rcases h with ⟨ht, m, h, r⟩ | ⟨ht, m, h, r⟩
    · exact ⟨a, rfl, .inl ⟨ht, m, e.trans h, RepK.mono l _ _ r⟩⟩
    · exact ⟨a, rfl, .inr ⟨ht, m, e.trans h, RepT.mono l _ _ r⟩⟩
/-- a frozen thing as it stands: plain, or locked while it is walked -/
def Rd' (H : Hp) (a : Addr) (u : HO) : Prop := H a = some u ∨ (Mut (some u) ∧ ∃ o, H a = some (.frz o u))
theorem Rd'.rd {H : Hp} {a : Addr} {u : HO} (h : Rd' H a u) : Rd H a u := h.imp id And.right
structure R (K : Frag) (g : Gh) (os : List Bool) (ρ : Ev) (σ : St) (H F : Hp) : Prop where
  len : σ.length = ρ.length
  leno : os.length = ρ.length
  sub : ∀ a u, F a = some u → Rd' H a u
  fz : ∀ (i : Nat) (d : D), os[i]? = some false → ρ[i]? = some (some d) → ∃ v, σ[i]? = some (some v) ∧ Rep K F d v
  ow : ∀ (i : Nat) (d : D), os[i]? = some true → ρ[i]? = some (some d) → ∃ a, σ[i]? = some (some (.ref a)) ∧ F a = none ∧ OwnD K F H a d ∧ ((∃ j, (j, a) ∈ g.pn) ∨ g.H0 a = none)
  dj : ∀ (i j : Nat) (d e : D) (a : Addr), i ≠ j → os[i]? = some true → os[j]? = some true → ρ[i]? = some (some d) → ρ[j]? = some (some e) → σ[i]? = some (some (.ref a)) → σ[j]? = some (some (.ref a)) → False
  frame : ∀ b o, g.H0 b = some o → (∀ j, (j, b) ∉ g.pn) → H b = some o ∨ ∃ od, (b, od, o) ∈ g.lk
  f0 : FLe g.F0 F
  fresh : ∀ b u, F b = some u → g.F0 b = some u ∨ g.H0 b = none ∨ ∃ xs, u = .tup xs ∧ g.H0 b = some (.tup xs)
  fr : ∀ b od u, F b = some u → H b = some (.frz od u) → (b, od, u) ∈ g.lk ∨ g.H0 b = some (.frz od u)
  pin : ∀ (i : Nat) (a : Addr), (i, a) ∈ g.pn → os[i]? = some true ∧ (∃ d, ρ[i]? = some (some d)) ∧ σ[i]? = some (some (.ref a))
  lock : ∀ d od u, (d, od, u) ∈ g.lk → H d = some (.frz od u) ∧ F d = some u
  kt : ∀ (i : Nat) (b : Addr), i ∈ g.kt → σ[i]? = some (some (.ref b)) → ∃ xs, H b = some (.tup xs)
section
variable {K : Frag} {g : Gh} {os : List Bool} {ρ : Ev} {σ : St} {H F : Hp}
theorem TAt.sq {a : Addr} {xs : List V} (s : ∀ a u, F a = some u → Rd' H a u) (h : TAt K F a xs) : SqT K H a xs := h.imp (fun z => (s _ _ z).rd) id
theorem LAt.sq {a : Addr} {xs : List V} (s : ∀ a u, F a = some u → Rd' H a u) (h : LAt K F a xs) : SqL K H a xs := h.imp (fun z => (s _ _ z).rd) id
theorem upd_some {H : Hp} {p b : Addr} {o u : HO} (hp : H p = none) (h : H b = some u) : upd H p o b = some u := by
  rw [upd_ne (ne_of_none h hp)]; exact h
theorem Rd'.upd {p a : Addr} {o u : HO} (hp : H p = none) (h : Rd' H a u) : Rd' (upd H p o) a u := h.imp (upd_some hp) fun ⟨m, ob, h⟩ => ⟨m, ob, upd_some hp h⟩
/-- nothing frozen stands at a free place -/
theorem R.none_of (r : R K g os ρ σ H F) {p : Addr} (h : H p = none) : F p = none := by
  cases e : F p with
  | none => rfl
  | some u =>
    rcases r.sub p u e with q | ⟨_, o, q⟩ <;> rw [h] at q <;> cases q
theorem R.h0_none (r : R K g os ρ σ H F) {p : Addr} (h : H p = none) : g.H0 p = none := by
  cases e : g.H0 p with
  | none => rfl
  | some o =>
    by_cases hp : ∃ j, (j, p) ∈ g.pn
    · obtain ⟨j, hj⟩ := hp
      obtain ⟨h1, ⟨d, h2⟩, h3⟩ := r.pin j p hj
      obtain ⟨a, h4, _, h5, _⟩ := r.ow j d h1 h2
      rw [h3] at h4; cases h4
      obtain ⟨o, h6, _⟩ := h5.there
      rw [h] at h6; cases h6
    · rcases r.frame p o e (fun j hj => hp ⟨j, hj⟩) with q | ⟨od, q⟩
      · rw [h] at q; cases q
      · have := (r.lock p od o q).1
        rw [h] at this; cases this
/-- a new object, untold -/
theorem R.laid (r : R K g os ρ σ H F) {p : Addr} {o : HO} (h : H p = none) : R K g os ρ σ (upd H p o) F where
  len := r.len
  leno := r.leno
  sub := fun a u e => Rd'.upd h (r.sub a u e)
  fz := r.fz
  ow := fun i d h1 h2 => by
    obtain ⟨a, e1, e2, e3, e4⟩ := r.ow i d h1 h2
    obtain ⟨u, e5, _⟩ := e3.there
    exact ⟨a, e1, e2, e3.heap (upd_ne (ne_of_none e5 h)), e4⟩
  dj := r.dj
  frame := fun b u e hp => (r.frame b u e hp).imp (upd_some h) id
  f0 := r.f0
  fresh := r.fresh
  fr := fun b od u hF hH => by
    have ne : b ≠ p := fun z => by subst z; rw [r.none_of h] at hF; cases hF
    rw [upd_ne ne] at hH
    exact r.fr b od u hF hH
  pin := r.pin
  lock := fun d od u hm => ⟨upd_some h (r.lock d od u hm).1, (r.lock d od u hm).2⟩
  kt := fun i b hm hs => let ⟨xs, e⟩ := r.kt i b hm hs; ⟨xs, upd_some h e⟩
/-- what stands in the heap and is no slot's becomes data -/
theorem R.frozen (r : R K g os ρ σ H F) {p : Addr} {o : HO} (h : H p = some o) (hf : F p = none) (h0 : g.H0 p = none ∨ ∃ xs, o = .tup xs ∧ g.H0 p = some (.tup xs)) (hz : ∀ ob v, o ≠ .frz ob v) (hs : ∀ (i : Nat) (d : D), os[i]? = some true → ρ[i]? = some (some d) → σ[i]? ≠ some (some (.ref p))) : R K g os ρ σ H (upd F p o) where
  len := r.len
  leno := r.leno
  sub := fun a u e => by
    by_cases ha : a = p
    · subst ha; rw [upd_same] at e; cases e; exact .inl h
    · rw [upd_ne ha] at e; exact r.sub a u e
  fz := fun i d h1 h2 => by
    obtain ⟨v, e1, e2⟩ := r.fz i d h1 h2
    exact ⟨v, e1, Rep.mono (FLe.upd hf) _ _ e2⟩
  ow := fun i d h1 h2 => by
    obtain ⟨a, e1, e2, e3, e4⟩ := r.ow i d h1 h2
    have ne : a ≠ p := fun z => by subst z; exact hs i d h1 h2 e1
    exact ⟨a, e1, by rw [upd_ne ne]; exact e2, e3.mono (FLe.upd hf), e4⟩
  dj := r.dj
  frame := r.frame
  f0 := r.f0.trans (FLe.upd hf)
  fresh := fun b u e => by
    by_cases hb : b = p
    · subst hb
      rw [upd_same] at e; cases e
      exact .inr h0
    · rw [upd_ne hb] at e; exact r.fresh b u e
  fr := fun b od u hF hH => by
    by_cases hb : b = p
    · subst hb
      rw [h] at hH; cases hH
      exact absurd rfl (hz _ _)
    · rw [upd_ne hb] at hF; exact r.fr b od u hF hH
  pin := r.pin
  lock := fun d od u hm => ⟨(r.lock d od u hm).1, FLe.upd hf _ _ (r.lock d od u hm).2⟩
  kt := r.kt
/-- a new datum -/
theorem R.new (r : R K g os ρ σ H F) {p : Addr} {o : HO} (h : H p = none) (hz : ∀ ob v, o ≠ .frz ob v) : R K g os ρ σ (upd H p o) (upd F p o) :=
  (r.laid h).frozen upd_same (r.none_of h) (.inl (r.h0_none h)) hz fun i d h1 h2 e => by
    obtain ⟨a, e1, _, e3, _⟩ := r.ow i d h1 h2
    rw [e] at e1; cases e1
    obtain ⟨u, e5, _⟩ := e3.there
    rw [h] at e5; cases e5
theorem get_set {α : Type} {l : List α} {i j : Nat} {x : α} : (l.set i x)[j]? = if i = j then (if i < l.length then some x else none) else l[j]? := by
  by_cases e : i = j
  · subst e
    rw [if_pos rfl]
    by_cases hi : i < l.length
    · rw [if_pos hi, List.getElem?_set_self hi]
    · rw [if_neg hi]
      simp [List.getElem?_eq_none_iff]; omega
  · rw [if_neg e, List.getElem?_set_ne e]
/-- a slot takes a datum -/
theorem R.put (r : R K g os ρ σ H F) {i : Nat} {d : D} {v : V} (hi : ∀ a, (i, a) ∉ g.pn) (hk : i ∈ g.kt → ∀ b, v = .ref b → ∃ xs, H b = some (.tup xs)) (h : Rep K F d v) : R K g (os.set i false) (ρ.set i (some d)) (σ.set i (some v)) H F where
  len := by rw [List.length_set, List.length_set]; exact r.len
  leno := by rw [List.length_set, List.length_set]; exact r.leno
  sub := r.sub
  fz := fun j e h1 h2 => by
    rw [get_set] at h1 h2 ⊢
    by_cases hj : i = j
    · rw [if_pos hj] at h2 ⊢
      by_cases hl : i < ρ.length
      · rw [if_pos hl] at h2
        have : d = e := by simpa using h2
        subst this
        rw [if_pos (by rw [r.len]; exact hl)]
        exact ⟨v, rfl, h⟩
      · rw [if_neg hl] at h2; cases h2
    · rw [if_neg hj] at h1 h2 ⊢
      exact r.fz j e h1 h2
  ow := fun j e h1 h2 => by
    rw [get_set] at h1 h2 ⊢
    by_cases hj : i = j
    · rw [if_pos hj] at h1
      split at h1 <;> cases h1
    · rw [if_neg hj] at h1 h2 ⊢
      exact r.ow j e h1 h2
  dj := fun j k d1 e1 a hne h1 h2 h3 h4 h5 h6 => by
    rw [get_set] at h1 h2 h3 h4 h5 h6
    by_cases hj : i = j
    · rw [if_pos hj] at h1
      split at h1 <;> cases h1
    · by_cases hk : i = k
      · rw [if_pos hk] at h2
        split at h2 <;> cases h2
      · rw [if_neg hj] at h1 h3 h5
        rw [if_neg hk] at h2 h4 h6
        exact r.dj j k d1 e1 a hne h1 h2 h3 h4 h5 h6
  frame := r.frame
  f0 := r.f0
  fresh := r.fresh
  fr := r.fr
  pin := fun j a hm => by
    have hj : i ≠ j := fun z => by subst z; exact hi a hm
    rw [get_set, get_set, get_set, if_neg hj, if_neg hj, if_neg hj]
    exact r.pin j a hm
  lock := r.lock
  kt := fun j b hm hs => by
    rw [get_set] at hs
    by_cases hj : i = j
    · subst hj
      rw [if_pos rfl] at hs
      split at hs
      · exact hk hm b (Option.some.inj (Option.some.inj hs))
      · cases hs
    · rw [if_neg hj] at hs
      exact r.kt j b hm hs
/-- a slot takes an object for its own -/
theorem R.own (r : R K g os ρ σ H F) {i : Nat} {d : D} {a : Addr} (hi : ∀ a, (i, a) ∉ g.pn) (hk : i ∉ g.kt) (hf : F a = none) (h : OwnD K F H a d) (h0 : g.H0 a = none)
    (hs : ∀ (j : Nat) (e : D), j ≠ i → os[j]? = some true → ρ[j]? = some (some e) → σ[j]? ≠ some (some (.ref a))) : R K g (os.set i true) (ρ.set i (some d)) (σ.set i (some (.ref a))) H F where
  len := by rw [List.length_set, List.length_set]; exact r.len
  leno := by rw [List.length_set, List.length_set]; exact r.leno
  sub := r.sub
  fz := fun j e h1 h2 => by
    rw [get_set] at h1 h2 ⊢
    by_cases hj : i = j
    · rw [if_pos hj] at h1
      split at h1 <;> cases h1
    · rw [if_neg hj] at h1 h2 ⊢
      exact r.fz j e h1 h2
  ow := fun j e h1 h2 => by
    rw [get_set] at h1 h2 ⊢
    by_cases hj : i = j
    · rw [if_pos hj] at h2 ⊢
      by_cases hl : i < ρ.length
      · rw [if_pos hl] at h2
        have : d = e := by simpa using h2
        subst this
        rw [if_pos (by rw [r.len]; exact hl)]
        exact ⟨a, rfl, hf, h, .inr h0⟩
      · rw [if_neg hl] at h2; cases h2
    · rw [if_neg hj] at h1 h2 ⊢
      exact r.ow j e h1 h2
  dj := fun j k d1 e1 b hne h1 h2 h3 h4 h5 h6 => by
    rw [get_set] at h1 h2 h3 h4 h5 h6
    by_cases hj : i = j
    · have hk : i ≠ k := fun z => hne (hj.symm.trans z)
      rw [if_pos hj] at h5
      rw [if_neg hk] at h2 h4 h6
      have eb : a = b := by
        split at h5
        · have := Option.some.inj (Option.some.inj h5)
          injection this
        · cases h5
      subst eb
      exact hs k e1 (fun z => hk z.symm) h2 h4 h6
    · by_cases hk : i = k
      · rw [if_neg hj] at h1 h3 h5
        rw [if_pos hk] at h6
        have eb : a = b := by
          split at h6
          · have := Option.some.inj (Option.some.inj h6)
            injection this
          · cases h6
        subst eb
        exact hs j d1 (fun z => hj z.symm) h1 h3 h5
      · rw [if_neg hj] at h1 h3 h5
        rw [if_neg hk] at h2 h4 h6
        exact r.dj j k d1 e1 b hne h1 h2 h3 h4 h5 h6
  frame := r.frame
  f0 := r.f0
  fresh := r.fresh
  fr := r.fr
  pin := fun j b hm => by
    have hj : i ≠ j := fun z => by subst z; exact hi b hm
    rw [get_set, get_set, get_set, if_neg hj, if_neg hj, if_neg hj]
    exact r.pin j b hm
  lock := r.lock
  kt := fun j b hm hs => by
    have hj : i ≠ j := fun z => by subst z; exact hk hm
    rw [get_set, if_neg hj] at hs
    exact r.kt j b hm hs
/-- an owned object is changed -/
theorem R.write (r : R K g os ρ σ H F) {i : Nat} {d d' : D} {a : Addr} {o : HO} (h1 : os[i]? = some true) (h2 : ρ[i]? = some (some d)) (h3 : σ[i]? = some (some (.ref a))) (h : OwnD K F (upd H a o) a d') :
    R K g os (ρ.set i (some d')) σ (upd H a o) F := by
  obtain ⟨a', e1, e2, e3, e4⟩ := r.ow i d h1 h2
  rw [h3] at e1; cases e1
  have hF : ∀ b u, F b = some u → b ≠ a := fun b u q => ne_of_none q e2
  have hl : i < ρ.length := by rw [← r.leno]; exact (List.getElem?_eq_some_iff.mp h1).1
  obtain ⟨oa, hoa, moa⟩ := e3.there
  refine ⟨by rw [List.length_set]; exact r.len, by rw [List.length_set]; exact r.leno, fun b u q => ?_, fun j e k1 k2 => ?_, fun j e k1 k2 => ?_, fun j k d1 d2 b hne k1 k2 k3 k4 k5 k6 => ?_, fun b u q hp => ?_, r.f0, r.fresh, fun b od u q1 q2 => ?_, fun j b hm => ?_, fun b od u hm => ?_, fun j b hm hs => ?_⟩
  · have ne := hF b u q
    exact (r.sub b u q).imp (fun z => by rw [upd_ne ne]; exact z) fun ⟨m, ob, z⟩ => ⟨m, ob, by rw [upd_ne ne]; exact z⟩
  · have hj : i ≠ j := fun z => by subst z; rw [h1] at k1; cases k1
    rw [get_set, if_neg hj] at k2
    exact r.fz j e k1 k2
  · rw [get_set] at k2
    by_cases hj : i = j
    · subst hj
      rw [if_pos rfl, if_pos hl] at k2
      have : d' = e := by simpa using k2
      subst this
      exact ⟨a, h3, e2, h, e4⟩
    · rw [if_neg hj] at k2
      obtain ⟨b, q1, q2, q3, q4⟩ := r.ow j e k1 k2
      have ne : b ≠ a := fun z => by subst z; exact r.dj i j d e b hj h1 k1 h2 k2 h3 q1
      exact ⟨b, q1, q2, q3.heap (upd_ne ne), q4⟩
  · have w : ∀ {j d1}, (ρ.set i (some d'))[j]? = some (some d1) → ∃ d2, ρ[j]? = some (some d2) := fun {j d1} z => by
      rw [get_set] at z
      by_cases hj : i = j
      · subst hj; exact ⟨d, h2⟩
      · rw [if_neg hj] at z; exact ⟨d1, z⟩
    obtain ⟨_, w3⟩ := w k3
    obtain ⟨_, w4⟩ := w k4
    exact r.dj j k _ _ b hne k1 k2 w3 w4 k5 k6
  · have ne : b ≠ a := fun z => by
      subst z
      rcases e4 with ⟨j, hj⟩ | hn
      · exact hp j hj
      · rw [hn] at q; cases q
    exact (r.frame b u q hp).imp (fun z => by rw [upd_ne ne]; exact z) id
  · rw [upd_ne (hF b u q1)] at q2
    exact r.fr b od u q1 q2
  · obtain ⟨k1, ⟨e, k2⟩, k3⟩ := r.pin j b hm
    refine ⟨k1, ?_, k3⟩
    rw [get_set]
    by_cases hj : i = j
    · subst hj; rw [if_pos rfl, if_pos hl]; exact ⟨_, rfl⟩
    · rw [if_neg hj]; exact ⟨e, k2⟩
  · obtain ⟨k1, k2⟩ := r.lock b od u hm
    exact ⟨by rw [upd_ne (hF b u k2)]; exact k1, k2⟩
  · obtain ⟨xs, e⟩ := r.kt j b hm hs
    have ne : b ≠ a := fun z => by
      subst z
      rw [hoa] at e; cases e
      exact moa.elim
    exact ⟨xs, by rw [upd_ne ne]; exact e⟩
/-- a slot's own object becomes data -/
theorem R.freeze (r : R K g os ρ σ H F) (i : Nat) (hi : ∀ a, (i, a) ∉ g.pn) : ∃ F', R K g (os.set i false) ρ σ H F' ∧ FLe F F' := by
  by_cases h1 : os[i]? = some true
  · cases h2 : ρ[i]? with
    | none =>
      have hl := (List.getElem?_eq_some_iff.mp h1).1
      have := List.getElem?_eq_none_iff.mp h2
      rw [r.leno] at hl; omega
    | some od =>
      cases od with
      | none =>
        refine ⟨F, ⟨r.len, by rw [List.length_set]; exact r.leno, r.sub, fun j e k1 k2 => ?_, fun j e k1 k2 => ?_, fun j k d e b hne k1 k2 k3 k4 k5 k6 => ?_, r.frame, r.f0, r.fresh, r.fr, fun j b hm => ?_, r.lock, r.kt⟩, FLe.refl⟩
        · have hj : i ≠ j := fun z => by subst z; rw [h2] at k2; cases k2
          rw [get_set, if_neg hj] at k1
          exact r.fz j e k1 k2
        · have hj : i ≠ j := fun z => by subst z; rw [h2] at k2; cases k2
          rw [get_set, if_neg hj] at k1
          exact r.ow j e k1 k2
        · have hj : i ≠ j := fun z => by subst z; rw [h2] at k3; cases k3
          have hk : i ≠ k := fun z => by subst z; rw [h2] at k4; cases k4
          rw [get_set, if_neg hj] at k1
          rw [get_set, if_neg hk] at k2
          exact r.dj j k d e b hne k1 k2 k3 k4 k5 k6
        · have hj : i ≠ j := fun z => by subst z; exact hi b hm
          rw [get_set, if_neg hj]
          exact r.pin j b hm
      | some d =>
        obtain ⟨a, e1, e2, e3, e4⟩ := r.ow i d h1 h2
        obtain ⟨o, e5, mo⟩ := e3.there
        have h0 : g.H0 a = none := by
          rcases e4 with ⟨j, hj⟩ | hn
          · obtain ⟨q1, ⟨d2, q2⟩, q3⟩ := r.pin j a hj
            exact (r.dj i j d d2 a (fun z => by subst z; exact hi a hj) h1 q1 h2 q2 e1 q3).elim
          · exact hn
        have fl : FLe F (upd F a o) := FLe.upd e2
        refine ⟨upd F a o, ⟨r.len, by rw [List.length_set]; exact r.leno, fun b u q => ?_, fun j e k1 k2 => ?_, fun j e k1 k2 => ?_, fun j k d1 d2 b hne k1 k2 k3 k4 k5 k6 => ?_, r.frame, r.f0.trans fl, fun b u q => ?_, fun b od u q1 q2 => ?_, fun j b hm => ?_, fun b od u hm => ?_, r.kt⟩, fl⟩
        · by_cases hb : b = a
          · subst hb; rw [upd_same] at q; cases q; exact .inl e5
          · rw [upd_ne hb] at q; exact r.sub b u q
        · by_cases hj : i = j
          · subst hj
            rw [h2] at k2; cases k2
            exact ⟨.ref a, e1, e3.rep fl (by rw [upd_same, e5])⟩
          · rw [get_set, if_neg hj] at k1
            obtain ⟨v, q1, q2⟩ := r.fz j e k1 k2
            exact ⟨v, q1, Rep.mono fl _ _ q2⟩
        · have hj : i ≠ j := fun z => by
            subst z
            rw [get_set, if_pos rfl] at k1
            split at k1 <;> cases k1
          rw [get_set, if_neg hj] at k1
          obtain ⟨b, q1, q2, q3, q4⟩ := r.ow j e k1 k2
          have ne : b ≠ a := fun z => by subst z; exact r.dj i j d e b hj h1 k1 h2 k2 e1 q1
          exact ⟨b, q1, by rw [upd_ne ne]; exact q2, q3.mono fl, q4⟩
        · have hj : i ≠ j := fun z => by
            subst z
            rw [get_set, if_pos rfl] at k1
            split at k1 <;> cases k1
          have hk : i ≠ k := fun z => by
            subst z
            rw [get_set, if_pos rfl] at k2
            split at k2 <;> cases k2
          rw [get_set, if_neg hj] at k1
          rw [get_set, if_neg hk] at k2
          exact r.dj j k d1 d2 b hne k1 k2 k3 k4 k5 k6
        · by_cases hb : b = a
          · subst hb; exact .inr (.inl h0)
          · rw [upd_ne hb] at q; exact r.fresh b u q
        · by_cases hb : b = a
          · subst hb
            rw [e5] at q2; cases q2
            exact mo.elim
          · rw [upd_ne hb] at q1; exact r.fr b od u q1 q2
        · have hj : i ≠ j := fun z => by subst z; exact hi b hm
          rw [get_set, if_neg hj]
          exact r.pin j b hm
        · exact ⟨(r.lock b od u hm).1, fl _ _ (r.lock b od u hm).2⟩
  · refine ⟨F, ⟨r.len, by rw [List.length_set]; exact r.leno, r.sub, fun j e k1 k2 => ?_, fun j e k1 k2 => ?_, fun j k d e b hne k1 k2 k3 k4 k5 k6 => ?_, r.frame, r.f0, r.fresh, r.fr, fun j b hm => ?_, r.lock, r.kt⟩, FLe.refl⟩
    · by_cases hj : i = j
      · subst hj
        have hl : i < os.length := by
          have := (List.getElem?_eq_some_iff.mp k2).1
          rw [r.leno]; exact this
        have : os[i]? = some false := by
          cases q : os[i]? with
          | none => exact absurd (List.getElem?_eq_none_iff.mp q) (by omega)
          | some b => cases b with
            | false => rfl
            | true => exact absurd q h1
        exact r.fz i e this k2
      · rw [get_set, if_neg hj] at k1
        exact r.fz j e k1 k2
    · have hj : i ≠ j := fun z => by
        subst z
        rw [get_set, if_pos rfl] at k1
        split at k1 <;> cases k1
      rw [get_set, if_neg hj] at k1
      exact r.ow j e k1 k2
    · have hj : i ≠ j := fun z => by
        subst z
        rw [get_set, if_pos rfl] at k1
        split at k1 <;> cases k1
      have hk : i ≠ k := fun z => by
        subst z
        rw [get_set, if_pos rfl] at k2
        split at k2 <;> cases k2
      rw [get_set, if_neg hj] at k1
      rw [get_set, if_neg hk] at k2
      exact r.dj j k d e b hne k1 k2 k3 k4 k5 k6
    · have hj : i ≠ j := fun z => by subst z; exact hi b hm
      rw [get_set, if_neg hj]
      exact r.pin j b hm
/-- what may be read of a value now -/
def View (K : Frag) (F H : Hp) : D → V → Prop
  | .tup ds, v => ∃ a vs, v = .ref a ∧ SqT K H a vs ∧ Reps K F ds vs
  | .lst ds, v => ∃ a vs, v = .ref a ∧ SqL K H a vs ∧ Reps K F ds vs
  | .dic t kvs, v => ∃ a, v = .ref a ∧ ((t = false ∧ ∃ l, Rd H a (.dK l) ∧ RepK K F kvs l) ∨ (t = true ∧ ∃ l, Rd H a (.dT l) ∧ RepT K F kvs l))
  | d, v => Rep K F d v
theorem Rep.view (s : ∀ a u, F a = some u → Rd' H a u) : ∀ {d : D} {v : V}, Rep K F d v → View K F H d v
  | .non, _, h => h
  | .bl _, _, h => h
  | .int _, _, h => h
  | .str _, _, h => h
  | .tup _, _, ⟨a, vs, e, t, r⟩ => ⟨a, vs, e, t.sq s, r⟩
  | .lst _, _, ⟨a, vs, e, t, r⟩ => ⟨a, vs, e, t.sq s, r⟩
  | .dic _ _, _, ⟨a, e, h⟩ => ⟨a, e, h.imp (fun ⟨ht, l, t, r⟩ => ⟨ht, l, (s _ _ t).rd, r⟩) fun ⟨ht, l, t, r⟩ => ⟨ht, l, (s _ _ t).rd, r⟩⟩
  | .set _, _, h => h
theorem OwnD.view {a : Addr} : ∀ {d : D}, OwnD K F H a d → View K F H d (.ref a)
  | .lst _, ⟨vs, h, r⟩ => ⟨a, vs, rfl, .inl (.inl h), r⟩
  | .dic _ _, h => ⟨a, rfl, h.imp (fun ⟨ht, l, t, r⟩ => ⟨ht, l, .inl t, r⟩) fun ⟨ht, l, t, r⟩ => ⟨ht, l, .inl t, r⟩⟩
/-- a slot's value may be read -/
theorem R.view (r : R K g os ρ σ H F) {i : Nat} {d : D} (h : ρ[i]? = some (some d)) : ∃ v, σ[i]? = some (some v) ∧ View K F H d v := by
  have hl : i < os.length := by
    have := (List.getElem?_eq_some_iff.mp h).1
    rw [r.leno]; exact this
  cases q : os[i]? with
  | none => exact absurd (List.getElem?_eq_none_iff.mp q) (by omega)
  | some b => cases b with
    | false =>
      obtain ⟨v, e1, e2⟩ := r.fz i d q h
      exact ⟨v, e1, e2.view r.sub⟩
    | true =>
      obtain ⟨a, e1, e2, e3, e4⟩ := r.ow i d q h
      exact ⟨.ref a, e1, e3.view⟩
end
end DL
/-! DL2: results, the readings as relations, expressions. -/
namespace DL
open PySem PySem.Spec L2
set_option autoImplicit false
/-- an exception: its class's name, its fields -/
structure XD where
  cls : Str
  fields : List (Str × D)
inductive Res (α : Type) where
  | ok (a : α) | exc (x : XD) | bad
abbrev EM (α : Type) := Ev → Res (α × Ev)
def eBind {α β : Type} (f : EM α) (k : α → EM β) : EM β := fun ρ => match f ρ with
  | .ok (a, ρ') => k a ρ'
  | .exc x => .exc x
  | .bad => .bad
def eRet {α : Type} (a : α) : EM α := fun ρ => .ok (a, ρ)
def eLift {α : Type} (r : Res α) : EM α := fun ρ => match r with
  | .ok a => .ok (a, ρ)
  | .exc x => .exc x
  | .bad => .bad
def eVar (i : Nat) : EM D := fun ρ => match ρ[i]? with
  | some (some d) => .ok (d, ρ)
  | _ => .bad
def RepF (K : Frag) (F : Hp) : List (Str × D) → List (Str × V) → Prop
  | [], l => l = []
  | (k, d) :: r, l => ∃ v m, l = (k, v) :: m ∧ Rep K F d v ∧ RepF K F r m
/-- how an exception lies -/
structure ExcOk (K : Frag) (g : Gh) (x : XD) (c : Value) (dd : Option Addr) (H F : Hp) : Prop where
  cls : c = .ref (He.ga K x.cls)
  fld : x.fields = [] ∨ ∃ d l, dd = some d ∧ H d = some (.xd l) ∧ RepF K F x.fields l
  sub : ∀ a u, F a = some u → Rd' H a u
  frame : ∀ b o, g.H0 b = some o → (∀ j, (j, b) ∉ g.pn) → H b = some o ∨ ∃ od, (b, od, o) ∈ g.lk
  f0 : FLe g.F0 F
  fresh : ∀ b u, F b = some u → g.F0 b = some u ∨ g.H0 b = none ∨ ∃ xs, u = .tup xs ∧ g.H0 b = some (.tup xs)
section
variable (K : Frag) (E : XK) (os : List Bool)
/-- what a result is told by -/
abbrev Rl (α β : Type) := Gh → Ev → St → Hp → Hp → α → β → Prop
def WG {α β : Type} (g : Gh) (σ : L2.St) (F : Hp) (rl : Gh → Ev → L2.St → Hp → Hp → α → β → Prop) (Q : β → Hp → Prop) : Res (α × Ev) → Prop
  | .ok (a, ρ') => ∀ b H' F', R K g os ρ' σ H' F' → FLe F F' → rl g ρ' σ H' F' a b → Q b H'
  | .exc x => ∀ c dd H' F', ExcOk K g x c dd H' F' → E c dd H'
  | .bad => False
def tG {α β : Type} (rl : Gh → Ev → L2.St → Hp → Hp → α → β → Prop) (f : EM α) : L2.St → Hp → (β → Hp → Prop) → Prop := fun σ H Q =>
  ∃ g ρ F, R K g os ρ σ H F ∧ WG K E os g σ F rl Q (f ρ)
/-- a new object that is nobody's -/
structure Free (g : Gh) (ρ : Ev) (σ : L2.St) (H F : Hp) (d : D) (a : Addr) : Prop where
  f : F a = none
  own : OwnD K F H a d
  h0 : g.H0 a = none
  ne : ∀ (i : Nat) (e : D), os[i]? = some true → ρ[i]? = some (some e) → σ[i]? ≠ some (some (.ref a))
def rD : Gh → Ev → L2.St → Hp → Hp → D → V → Prop := fun _ _ _ _ F d v => Rep K F d v
def rV : Gh → Ev → L2.St → Hp → Hp → D → V → Prop := fun _ _ _ H F d v => View K F H d v
def rO : Gh → Ev → L2.St → Hp → Hp → D → V → Prop := fun g ρ σ H F d v => ∃ a, v = .ref a ∧ Free K os g ρ σ H F d a
def rB : Gh → Ev → L2.St → Hp → Hp → Bool → Bool → Prop := fun _ _ _ _ _ b c => c = b
def rA : Gh → Ev → L2.St → Hp → Hp → List D → List V → Prop := fun _ _ _ _ F ds vs => Reps K F ds vs
abbrev sD (f : EM D) : TE := tG K E os (rD K) f
abbrev sV (f : EM D) : TE := tG K E os (rV K) f
abbrev sO (f : EM D) : TE := tG K E os (rO K os) f
abbrev sB (f : EM Bool) : TT := tG K E os rB f
abbrev sA (f : EM (List D)) : TA := tG K E os (rA K) f
end
section
variable {K : Frag} {E : XK} {os : List Bool} {g : Gh} {σ : L2.St} {F F1 H : Hp} {ρ : Ev}
theorem WG.mono {α β : Type} {rl : Gh → Ev → L2.St → Hp → Hp → α → β → Prop} {Q : β → Hp → Prop} (l : FLe F F1) : ∀ {r : Res (α × Ev)}, WG K E os g σ F rl Q r → WG K E os g σ F1 rl Q r
  | .ok (a, ρ'), h => fun b H' F' hR le => h b H' F' hR (l.trans le)
  | .exc x, h => h
  | .bad, h => h
theorem WG.bind {α β γ δ : Type} {r1 : Gh → Ev → L2.St → Hp → Hp → α → β → Prop} {r2 : Gh → Ev → L2.St → Hp → Hp → γ → δ → Prop} {Q : δ → Hp → Prop} {f : EM α} {k : α → EM γ} (h : WG K E os g σ F r2 Q (eBind f k ρ)) :
    WG K E os g σ F r1 (fun b H1 => ∃ a ρ1 F1, R K g os ρ1 σ H1 F1 ∧ FLe F F1 ∧ r1 g ρ1 σ H1 F1 a b ∧ WG K E os g σ F1 r2 Q (k a ρ1)) (f ρ) := by
  unfold eBind at h
  cases e : f ρ with
  | ok p =>
    obtain ⟨a, ρ'⟩ := p
    rw [e] at h
    intro b H' F' hR le q
    exact ⟨a, ρ', F', hR, le, q, h.mono le⟩
  | exc x =>
    rw [e] at h
    exact h
  | bad =>
    rw [e] at h
    exact h
theorem WG.imp {α β : Type} {r1 : Gh → Ev → L2.St → Hp → Hp → α → β → Prop} {Q Q' : β → Hp → Prop} (hq : ∀ b H, Q b H → Q' b H) : ∀ {r : Res (α × Ev)}, WG K E os g σ F r1 Q r → WG K E os g σ F r1 Q' r
  | .ok (a, ρ'), h => fun b H' F' hR le q => hq _ _ (h b H' F' hR le q)
  | .exc x, h => h
  | .bad, h => h
/-- a step's reading, then another's -/
theorem tG.bind {α β γ δ : Type} {r1 : Gh → Ev → L2.St → Hp → Hp → α → β → Prop} {r2 : Gh → Ev → L2.St → Hp → Hp → γ → δ → Prop} {Q : δ → Hp → Prop} {f : EM α} {k : α → EM γ} {P : β → Hp → Prop}
    (r : R K g os ρ σ H F) (h : WG K E os g σ F r2 Q (eBind f k ρ))
    (hp : ∀ a b ρ1 H1 F1, R K g os ρ1 σ H1 F1 → FLe F F1 → r1 g ρ1 σ H1 F1 a b → WG K E os g σ F1 r2 Q (k a ρ1) → P b H1) : tG K E os r1 f σ H P :=
  ⟨g, ρ, F, r, (h.bind (r1 := r1)).imp fun b H1 ⟨a, ρ1, F1, h1, h2, h3, h4⟩ => hp a b ρ1 H1 F1 h1 h2 h3 h4⟩
theorem WG.lift {α β : Type} {r1 : Gh → Ev → L2.St → Hp → Hp → α → β → Prop} {Q : β → Hp → Prop} {r : Res α} {a : α} (h : WG K E os g σ F r1 Q (eLift r ρ)) (e : r = .ok a) : ∀ b H' F', R K g os ρ σ H' F' → FLe F F' → r1 g ρ σ H' F' a b → Q b H' := by
  subst e
  exact h
theorem WG.ret {α β : Type} {r1 : Gh → Ev → L2.St → Hp → Hp → α → β → Prop} {Q : β → Hp → Prop} {a : α} (h : WG K E os g σ F r1 Q (eRet a ρ)) : ∀ b H' F', R K g os ρ σ H' F' → FLe F F' → r1 g ρ σ H' F' a b → Q b H' := h
end
section
variable {X : Cx} {E : XK} {os : List Bool} {a b e : Expr} {es : List Expr} {pos : Pos} {fa fb : EM D}
theorem PE.weak {t t' : TE} (h : PE X e t) (w : ∀ σ H Q, t' σ H Q → t σ H Q) : PE X e t' := ⟨fun pins s σ H Q I q => h.run pins s σ H Q I (w σ H Q q)⟩
theorem PT.weak {t t' : TT} (h : PT X e t) (w : ∀ σ H Q, t' σ H Q → t σ H Q) : PT X e t' := ⟨fun pins s σ H Q I q => h.run pins s σ H Q I (w σ H Q q)⟩
theorem PA.weak {t t' : TA} (h : PA X es t) (w : ∀ σ H Q, t' σ H Q → t σ H Q) : PA X es t' := ⟨fun pos pins s σ H Q I q => h.run pos pins s σ H Q I (w σ H Q q)⟩
/-- data may be read -/
theorem dv_of (h : PE X e (sD X.K E os fa)) : PE X e (sV X.K E os fa) := PE.weak h fun σ H Q ⟨g, ρ, F, r, w⟩ => by
  refine ⟨g, ρ, F, r, ?_⟩
  cases q : fa ρ with
  | ok p =>
    obtain ⟨d, ρ'⟩ := p
    rw [q] at w
    intro v H' F' hR le hv
    exact w v H' F' hR le (hv.view hR.sub)
  | exc x => rw [q] at w; exact w
  | bad => rw [q] at w; exact w
/-- a new object becomes data -/
theorem de_of (h : PE X e (sO X.K E os fa)) : PE X e (sD X.K E os fa) := PE.weak h fun σ H Q ⟨g, ρ, F, r, w⟩ => by
  refine ⟨g, ρ, F, r, ?_⟩
  cases q : fa ρ with
  | ok p =>
    obtain ⟨d, ρ'⟩ := p
    rw [q] at w
    intro v H' F' hR le ⟨a, e1, fr⟩
    subst e1
    obtain ⟨o, ho, mo⟩ := fr.own.there
    exact w (.ref a) H' (upd F' a o) (hR.frozen ho fr.f (.inl fr.h0) (fun ob v z => by subst z; exact mo.elim) fr.ne) (le.trans (FLe.upd fr.f)) (fr.own.rep (FLe.upd fr.f) (by rw [upd_same, ho]))
  | exc x => rw [q] at w; exact w
  | bad => rw [q] at w; exact w
/-! ### names, constants -/
theorem de_var {i : Nat} {x : Str} (h : PE X (.Name x pos) (tVar i)) (ho : os[i]? = some false) : PE X (.Name x pos) (sD X.K E os (eVar i)) := PE.weak h fun σ H Q ⟨g, ρ, F, r, w⟩ => by
  unfold eVar at w
  split at w
  · rename_i d q
    obtain ⟨v, e1, e2⟩ := r.fz i d ho q
    exact ⟨v, e1, w v H F r FLe.refl e2⟩
  · exact w.elim
theorem dv_var {i : Nat} {x : Str} (h : PE X (.Name x pos) (tVar i)) : PE X (.Name x pos) (sV X.K E os (eVar i)) := PE.weak h fun σ H Q ⟨g, ρ, F, r, w⟩ => by
  unfold eVar at w
  split at w
  · rename_i d q
    obtain ⟨v, e1, e2⟩ := r.view q
    exact ⟨v, e1, w v H F r FLe.refl e2⟩
  · exact w.elim
theorem de_con {d : D} {v : V} (h : PE X e (tC v)) (hv : ∀ F, Rep X.K F d v) : PE X e (sD X.K E os (eRet d)) := PE.weak h fun σ H Q ⟨g, ρ, F, r, w⟩ => w v H F r FLe.refl (hv F)
theorem de_int {i j pos} : PE X (.Constant (.int i) j pos) (sD X.K E os (eRet (.int i))) := de_con pe_int fun _ => rfl
theorem de_bl {b j pos} : PE X (.Constant (.bool b) j pos) (sD X.K E os (eRet (.bl b))) := de_con pe_bl fun _ => rfl
theorem de_non {j pos} : PE X (.Constant .none j pos) (sD X.K E os (eRet .non)) := de_con pe_non fun _ => rfl
theorem de_str {x j pos} : PE X (.Constant (.str x) j pos) (sD X.K E os (eRet (.str x))) := de_con pe_str fun _ => rfl
/-! ### operators -/
/-- two values, read; a result -/
def Op2 (K : Frag) (os : List Bool) (r : R2) (g2 : D → D → Res D) (rl : Gh → Ev → L2.St → Hp → Hp → D → V → Prop) : Prop :=
  ∀ (g : Gh) (ρ : Ev) (σ : L2.St) (H F : Hp) (x y : V) (dx dy d : D) (Q : VK), R K g os ρ σ H F → View K F H dx x → View K F H dy y → g2 dx dy = .ok d → (∀ v H' F', R K g os ρ σ H' F' → FLe F F' → rl g ρ σ H' F' d v → Q v H') → r x y H Q
/-- .. a Bool -/
def Op2B (K : Frag) (os : List Bool) (r : R2) (g2 : D → D → Res Bool) : Prop :=
  ∀ (g : Gh) (ρ : Ev) (σ : L2.St) (H F : Hp) (x y : V) (dx dy : D) (b : Bool) (Q : VK), R K g os ρ σ H F → View K F H dx x → View K F H dy y → g2 dx dy = .ok b → (∀ H' F', R K g os ρ σ H' F' → FLe F F' → Q (.bl b) H') → r x y H Q
def Noex {α : Type} (r : Res α) : Prop := ∀ x, r ≠ .exc x
def e2 {α : Type} (g2 : D → D → Res α) (fa fb : EM D) : EM α := eBind fa fun x => eBind fb fun y => eLift (g2 x y)
/-- the first one a name -/
def e2N {α : Type} (g2 : D → D → Res α) (i : Nat) (fb : EM D) : EM α := eBind (eVar i) fun _ => eBind fb fun y => eBind (eVar i) fun x => eLift (g2 x y)
theorem WG.okOf {α β : Type} {K : Frag} {g : Gh} {σ : L2.St} {F : Hp} {ρ : Ev} {rl : Gh → Ev → L2.St → Hp → Hp → α → β → Prop} {Q : β → Hp → Prop} {r : Res α} (hn : Noex r) (h : WG K E os g σ F rl Q (eLift r ρ)) : ∃ a, r = .ok a := by
  cases r with
  | ok a => exact ⟨a, rfl⟩
  | exc x => exact absurd rfl (hn x)
  | bad => exact h.elim
theorem eVar_ok {ρ ρ1 : Ev} {i : Nat} {d : D} (h : eVar i ρ = .ok (d, ρ1)) : ρ[i]? = some (some d) ∧ ρ1 = ρ := by
  unfold eVar at h
  split at h
  · rename_i d' q
    injection h with h
    injection h with h1 h2
    subst h1 h2
    exact ⟨q, rfl⟩
  · cases h
section
variable {K : Frag} {g : Gh} {σ : L2.St} {F H : Hp} {ρ : Ev}
theorem WG.var {γ δ : Type} {r2 : Gh → Ev → L2.St → Hp → Hp → γ → δ → Prop} {Q : δ → Hp → Prop} {i : Nat} {k : D → EM γ} (h : WG K E os g σ F r2 Q (eBind (eVar i) k ρ)) : ∃ d, ρ[i]? = some (some d) ∧ WG K E os g σ F r2 Q (k d ρ) := by
  unfold eBind at h
  cases e : eVar i ρ with
  | ok p =>
    obtain ⟨d, ρ1⟩ := p
    obtain ⟨h1, rfl⟩ := eVar_ok e
    rw [e] at h
    exact ⟨d, h1, h⟩
  | exc x =>
    unfold eVar at e
    split at e <;> cases e
  | bad =>
    rw [e] at h
    exact h.elim
theorem WG.lift2 {α β : Type} {rl : Gh → Ev → L2.St → Hp → Hp → α → β → Prop} {Q : β → Hp → Prop} {r : Res α} (hn : Noex r) (h : WG K E os g σ F rl Q (eLift r ρ)) : ∃ a, r = .ok a ∧ ∀ b H' F', R K g os ρ σ H' F' → FLe F F' → rl g ρ σ H' F' a b → Q b H' := by
  obtain ⟨a, e⟩ := h.okOf hn
  exact ⟨a, e, h.lift e⟩
end
/-- the readings of two operands -/
theorem bin_read {r : R2} {rl : Gh → Ev → L2.St → Hp → Hp → D → V → Prop} {g2 : D → D → Res D} (hg : Op2 X.K os r g2 rl) (hn : ∀ x y, Noex (g2 x y)) {σ : L2.St} {H : Hp} {Q : VK} (h : tG X.K E os rl (e2 g2 fa fb) σ H Q) : sD X.K E os fa σ H fun x H1 => sV X.K E os fb σ H1 fun y H2 => r x y H2 Q := by
  obtain ⟨g, ρ, F, hR, w⟩ := h
  refine tG.bind hR w fun dx x ρ1 H1 F1 hR1 le1 rx w1 => ?_
  refine tG.bind hR1 w1 fun dy y ρ2 H2 F2 hR2 le2 ry w2 => ?_
  obtain ⟨d, ed, w3⟩ := w2.lift2 (hn _ _)
  exact hg g ρ2 σ H2 F2 x y dx dy d Q hR2 (Rep.view hR2.sub (Rep.mono le2 _ _ rx)) ry ed w3
theorem bin_readN {r : R2} {rl : Gh → Ev → L2.St → Hp → Hp → D → V → Prop} {g2 : D → D → Res D} {i : Nat} (hg : Op2 X.K os r g2 rl) (hn : ∀ x y, Noex (g2 x y)) {σ : L2.St} {H : Hp} {Q : VK} (h : tG X.K E os rl (e2N g2 i fb) σ H Q) : tVar i σ H fun x H1 => sV X.K E os fb σ H1 fun y H2 => r x y H2 Q := by
  obtain ⟨g, ρ, F, hR, w⟩ := h
  obtain ⟨d0, h0, w0⟩ := w.var
  obtain ⟨x, hx, _⟩ := hR.view h0
  refine ⟨x, hx, ?_⟩
  refine tG.bind hR w0 fun dy y ρ2 H2 F2 hR2 le2 ry w2 => ?_
  obtain ⟨dx, h1, w3⟩ := w2.var
  obtain ⟨x', hx', vx⟩ := hR2.view h1
  rw [hx] at hx'
  cases hx'
  obtain ⟨d, ed, w4⟩ := w3.lift2 (hn _ _)
  exact hg g ρ2 σ H2 F2 x y dx dy d Q hR2 vx ry ed w4
theorem de_op {op : Operator} {r : R2} {rl : Gh → Ev → L2.St → Hp → Hp → D → V → Prop} {g2 : D → D → Res D} (ho : OpR X (binaryOp op) r) (hg : Op2 X.K os r g2 rl) (hn : ∀ x y, Noex (g2 x y)) (ha : PE X a (sD X.K E os fa)) (hb : PE X b (sV X.K E os fb)) :
    PE X (.BinOp a op b pos) (tG X.K E os rl (e2 g2 fa fb)) := PE.weak (pe_op ho ha hb) fun σ H Q h => bin_read hg hn h
theorem de_opN {op : Operator} {r : R2} {rl : Gh → Ev → L2.St → Hp → Hp → D → V → Prop} {g2 : D → D → Res D} {i : Nat} (ho : OpR X (binaryOp op) r) (hg : Op2 X.K os r g2 rl) (hn : ∀ x y, Noex (g2 x y)) (ha : PE X a (tVar i)) (hb : PE X b (sV X.K E os fb)) :
    PE X (.BinOp a op b pos) (tG X.K E os rl (e2N g2 i fb)) := PE.weak (pe_op ho ha hb) fun σ H Q h => bin_readN hg hn h
theorem bin_readB {r : R2} {g2 : D → D → Res Bool} (hg : Op2B X.K os r g2) (hn : ∀ x y, Noex (g2 x y)) {σ : L2.St} {H : Hp} {Q : Bool → Hp → Prop} (h : sB X.K E os (e2 g2 fa fb) σ H Q) : sD X.K E os fa σ H fun x H1 => sV X.K E os fb σ H1 fun y H2 => r x y H2 fun z H3 => ∃ k, z = .bl k ∧ Q k H3 := by
  obtain ⟨g, ρ, F, hR, w⟩ := h
  refine tG.bind hR w fun dx x ρ1 H1 F1 hR1 le1 rx w1 => ?_
  refine tG.bind hR1 w1 fun dy y ρ2 H2 F2 hR2 le2 ry w2 => ?_
  obtain ⟨d, ed, w3⟩ := w2.lift2 (hn _ _)
  exact hg g ρ2 σ H2 F2 x y dx dy d _ hR2 (Rep.view hR2.sub (Rep.mono le2 _ _ rx)) ry ed fun H' F' q l => ⟨_, rfl, w3 _ H' F' q l rfl⟩
theorem bin_readBN {r : R2} {g2 : D → D → Res Bool} {i : Nat} (hg : Op2B X.K os r g2) (hn : ∀ x y, Noex (g2 x y)) {σ : L2.St} {H : Hp} {Q : Bool → Hp → Prop} (h : sB X.K E os (e2N g2 i fb) σ H Q) : tVar i σ H fun x H1 => sV X.K E os fb σ H1 fun y H2 => r x y H2 fun z H3 => ∃ k, z = .bl k ∧ Q k H3 := by
  obtain ⟨g, ρ, F, hR, w⟩ := h
  obtain ⟨d0, h0, w0⟩ := w.var
  obtain ⟨x, hx, _⟩ := hR.view h0
  refine ⟨x, hx, ?_⟩
  refine tG.bind hR w0 fun dy y ρ2 H2 F2 hR2 le2 ry w2 => ?_
  obtain ⟨dx, h1, w3⟩ := w2.var
  obtain ⟨x', hx', vx⟩ := hR2.view h1
  rw [hx] at hx'
  cases hx'
  obtain ⟨d, ed, w4⟩ := w3.lift2 (hn _ _)
  exact hg g ρ2 σ H2 F2 x y dx dy d _ hR2 vx ry ed fun H' F' q l => ⟨_, rfl, w4 _ H' F' q l rfl⟩
/-- a comparison as a test -/
theorem dt_cmp {op : CmpOp} {r : R2} {g2 : D → D → Res Bool} (ho : OpR X (compareOp op) r) (hg : Op2B X.K os r g2) (hn : ∀ x y, Noex (g2 x y)) (hm : behindInMarks op b = false) (ha : PE X a (sD X.K E os fa)) (hb : PE X b (sV X.K E os fb)) :
    PT X (.Compare a [op] [b] pos) (sB X.K E os (e2 g2 fa fb)) := PT.weak (pt_cmpR ho ha hb hm) fun σ H Q h => bin_readB hg hn h
theorem dt_cmpN {op : CmpOp} {r : R2} {g2 : D → D → Res Bool} {i : Nat} (ho : OpR X (compareOp op) r) (hg : Op2B X.K os r g2) (hn : ∀ x y, Noex (g2 x y)) (hm : behindInMarks op b = false) (ha : PE X a (tVar i)) (hb : PE X b (sV X.K E os fb)) :
    PT X (.Compare a [op] [b] pos) (sB X.K E os (e2N g2 i fb)) := PT.weak (pt_cmpR ho ha hb hm) fun σ H Q h => bin_readBN hg hn h
/-- a Bool as a value -/
def eBl (f : EM Bool) : EM D := eBind f fun b => eRet (.bl b)
theorem rBl {f : EM Bool} {σ : L2.St} {H : Hp} {Q : VK} {K : Frag} (h : sD K E os (eBl f) σ H Q) : sB K E os f σ H fun b H' => Q (.bl b) H' := by
  obtain ⟨g, ρ, F, hR, w⟩ := h
  refine tG.bind hR w fun b c ρ1 H1 F1 hR1 le1 rx w1 => ?_
  subst rx
  exact w1 _ H1 F1 hR1 FLe.refl rfl
theorem de_cmp {op : CmpOp} {r : R2} {g2 : D → D → Res Bool} (ho : OpR X (compareOp op) r) (hmono : ∀ x y H Q Q', (∀ v H, Q v H → Q' v H) → r x y H Q → r x y H Q') (hg : Op2B X.K os r g2) (hn : ∀ x y, Noex (g2 x y)) (hm : behindInMarks op b = false) (ha : PE X a (sD X.K E os fa)) (hb : PE X b (sV X.K E os fb)) :
    PE X (.Compare a [op] [b] pos) (sD X.K E os (eBl (e2 g2 fa fb))) := PE.weak (pe_cmpR ho ha hb hm) fun σ H Q h => by
  obtain ⟨g, ρ, F, hR, w⟩ := h
  obtain ⟨g, ρ, F, hR, w⟩ := rBl ⟨g, ρ, F, hR, w⟩
  refine tG.bind hR w fun dx x ρ1 H1 F1 hR1 le1 rx w1 => ?_
  refine tG.bind hR1 w1 fun dy y ρ2 H2 F2 hR2 le2 ry w2 => ?_
  obtain ⟨d, ed, w3⟩ := w2.lift2 (hn _ _)
  exact hg g ρ2 σ H2 F2 x y dx dy d _ hR2 (Rep.view hR2.sub (Rep.mono le2 _ _ rx)) ry ed fun H' F' q l => w3 _ H' F' q l rfl
/-! ### one operand -/
def Op1 (K : Frag) (os : List Bool) (r : V → Hp → VK → Prop) (g1 : D → Res D) (rl : Gh → Ev → L2.St → Hp → Hp → D → V → Prop) : Prop :=
  ∀ (g : Gh) (ρ : Ev) (σ : L2.St) (H F : Hp) (x : V) (dx d : D) (Q : VK), R K g os ρ σ H F → View K F H dx x → g1 dx = .ok d → (∀ v H' F', R K g os ρ σ H' F' → FLe F F' → rl g ρ σ H' F' d v → Q v H') → r x H Q
def e1 {α : Type} (g1 : D → Res α) (fa : EM D) : EM α := eBind fa fun x => eLift (g1 x)
theorem one_read {r : V → Hp → VK → Prop} {rl : Gh → Ev → L2.St → Hp → Hp → D → V → Prop} {g1 : D → Res D} (hg : Op1 X.K os r g1 rl) (hn : ∀ x, Noex (g1 x)) {σ : L2.St} {H : Hp} {Q : VK} (h : tG X.K E os rl (e1 g1 fa) σ H Q) : sV X.K E os fa σ H fun x H1 => r x H1 Q := by
  obtain ⟨g, ρ, F, hR, w⟩ := h
  refine tG.bind hR w fun dx x ρ1 H1 F1 hR1 le1 rx w1 => ?_
  obtain ⟨d, ed, w3⟩ := w1.lift2 (hn _)
  exact hg g ρ1 σ H1 F1 x dx d Q hR1 rx ed w3
theorem de_un {op : UnaryOp} {r : V → Hp → VK → Prop} {rl : Gh → Ev → L2.St → Hp → Hp → D → V → Prop} {g1 : D → Res D} (ho : UnR X (unaryOp op) r) (hg : Op1 X.K os r g1 rl) (hn : ∀ x, Noex (g1 x)) (ha : PE X a (sV X.K E os fa)) :
    PE X (.UnaryOp op a pos) (tG X.K E os rl (e1 g1 fa)) := PE.weak (pe_un ho ha) fun σ H Q h => one_read hg hn h
/-! ### argument lists -/
def eNil : EM (List D) := eRet []
def eCons (f : EM D) (r : EM (List D)) : EM (List D) := eBind f fun d => eBind r fun ds => eRet (d :: ds)
theorem da_nil : PA X [] (sA X.K E os eNil) := PA.weak pa_nil fun σ H Q ⟨g, ρ, F, r, w⟩ => w [] H F r FLe.refl rfl
theorem da_cons {fr : EM (List D)} (ha : PE X e (sD X.K E os fa)) (hr : PA X es (sA X.K E os fr)) (hs : starEach (e :: es) X.env = (false, eval e X.env) :: starEach es X.env := by rfl) : PA X (e :: es) (sA X.K E os (eCons fa fr)) :=
  PA.weak (pa_cons ha hr hs) fun σ H Q ⟨g, ρ, F, r, w⟩ => by
    refine tG.bind r w fun d v ρ1 H1 F1 hR1 le1 rx w1 => ?_
    refine tG.bind hR1 w1 fun ds vs ρ2 H2 F2 hR2 le2 ry w2 => ?_
    exact w2.ret (v :: vs) H2 F2 hR2 FLe.refl ⟨v, vs, rfl, Rep.mono le2 _ _ rx, ry⟩
/-! ### displays -/
def gTup (ds : List D) : Res D := if ds.length ≤ sizeLine then .ok (.tup ds) else .bad
def gLst (ds : List D) : Res D := if ds.length ≤ sizeLine then .ok (.lst ds) else .bad
def eL {α : Type} (g : List D → Res α) (f : EM (List D)) : EM α := eBind f fun ds => eLift (g ds)
theorem gTup_noex (ds : List D) : Noex (gTup ds) := fun x h => by unfold gTup at h; split at h <;> cases h
theorem gLst_noex (ds : List D) : Noex (gLst ds) := fun x h => by unfold gLst at h; split at h <;> cases h
theorem de_tup {x1 : Nat} {fr : EM (List D)} (h : PA X es (sA X.K E os fr)) : PE X (.Tuple es x1 pos) (sD X.K E os (eL gTup fr)) := PE.weak (pe_tup h) fun σ H Q ⟨g, ρ, F, r, w⟩ => by
  refine tG.bind r w fun ds vs ρ1 H1 F1 hR1 le1 rx w1 => ?_
  obtain ⟨d, ed, w3⟩ := w1.lift2 (gTup_noex _)
  unfold gTup at ed
  split at ed
  · rename_i hl
    cases ed
    refine ⟨by rw [Reps.length rx]; exact hl, fun p hp => ?_⟩
    exact w3 (.ref p) _ _ (hR1.new hp (fun _ _ z => nomatch z)) (FLe.upd (hR1.none_of hp)) ⟨p, vs, rfl, .inl upd_same, Reps.mono (FLe.upd (hR1.none_of hp)) _ _ rx⟩
  · cases ed
/-- nobody's -/
theorem Free.new {K : Frag} {g : Gh} {ρ : Ev} {σ : L2.St} {H F : Hp} {p : Addr} {o : HO} {d : D} (r : R K g os ρ σ H F) (h : H p = none) (ho : OwnD K F (upd H p o) p d) : Free K os g ρ σ (upd H p o) F d p :=
  ⟨r.none_of h, ho, r.h0_none h, fun i e h1 h2 h3 => by
    obtain ⟨a, e1, _, e3, _⟩ := r.ow i e h1 h2
    rw [h3] at e1; cases e1
    obtain ⟨u, e5, _⟩ := e3.there
    rw [h] at e5; cases e5⟩
theorem do_lst {fr : EM (List D)} {k : Nat} (h : PA X es (sA X.K E os fr)) : PE X (.List es pos) (sO X.K E os (eL gLst fr)) := PE.weak (pe_lst h) fun σ H Q ⟨g, ρ, F, r, w⟩ => by
  refine tG.bind r w fun ds vs ρ1 H1 F1 hR1 le1 rx w1 => ?_
  obtain ⟨d, ed, w3⟩ := w1.lift2 (gLst_noex _)
  unfold gLst at ed
  split at ed
  · rename_i hl
    cases ed
    refine ⟨by rw [Reps.length rx]; exact hl, fun p hp => ?_⟩
    exact w3 (.ref p) _ _ (hR1.laid hp) FLe.refl ⟨p, rfl, Free.new hR1 hp ⟨vs, upd_same, rx⟩⟩
  · cases ed
/-! ### and, or, not, if else -/
def eAnd (f h : EM Bool) : EM Bool := eBind f fun c => if c = true then h else eRet false
def eOr (f h : EM Bool) : EM Bool := eBind f fun c => if c = true then eRet true else h
def eNot (f : EM Bool) : EM Bool := eBind f fun c => eRet (!c)
def eIf {α : Type} (f : EM Bool) (h k : EM α) : EM α := eBind f fun c => if c = true then h else k
variable {ft fu : EM Bool} {rest : List Expr}
theorem PW.weak {t t' : TT} (h : PW X e t) (w : ∀ σ H Q, t' σ H Q → t σ H Q) : PW X e t' := ⟨fun wh pins s σ H Q I q => h.run wh pins s σ H Q I (w σ H Q q)⟩
theorem dw_and (ha : PT X a (sB X.K E os ft)) (hb : PW X (.BoolOp .And (b :: rest) pos) (sB X.K E os fu)) : PW X (.BoolOp .And (a :: b :: rest) pos) (sB X.K E os (eAnd ft fu)) := PW.weak (pw_and ha hb) fun σ H Q ⟨g, ρ, F, r, w⟩ => by
  refine tG.bind r w fun c c' ρ1 H1 F1 hR1 le1 rx w1 => ?_
  have : c' = c := rx
  subst this
  cases c' with
  | true => exact ⟨g, ρ1, F1, hR1, w1⟩
  | false => exact w1 _ H1 F1 hR1 FLe.refl rfl
theorem dw_or (ha : PT X a (sB X.K E os ft)) (hb : PW X (.BoolOp .Or (b :: rest) pos) (sB X.K E os fu)) : PW X (.BoolOp .Or (a :: b :: rest) pos) (sB X.K E os (eOr ft fu)) := PW.weak (pw_or ha hb) fun σ H Q ⟨g, ρ, F, r, w⟩ => by
  refine tG.bind r w fun c c' ρ1 H1 F1 hR1 le1 rx w1 => ?_
  have : c' = c := rx
  subst this
  cases c' with
  | true => exact w1 _ H1 F1 hR1 FLe.refl rfl
  | false => exact ⟨g, ρ1, F1, hR1, w1⟩
theorem dt_not (ha : PT X a (sB X.K E os ft)) : PT X (.UnaryOp .Not a pos) (sB X.K E os (eNot ft)) := PT.weak (pt_not ha) fun σ H Q ⟨g, ρ, F, r, w⟩ => by
  refine tG.bind r w fun c c' ρ1 H1 F1 hR1 le1 rx w1 => ?_
  have : c' = c := rx
  subst this
  exact w1 _ H1 F1 hR1 FLe.refl rfl
/-- as values -/
theorem de_and {fb : EM Bool} (ha : PE X a (sD X.K E os (eBl ft))) (hb : PE X (.BoolOp .And (b :: rest) pos) (sD X.K E os (eBl fb))) : PE X (.BoolOp .And (a :: b :: rest) pos) (sD X.K E os (eBl (eAnd ft fb))) := PE.weak (pe_and ha hb) fun σ H Q h => by
  obtain ⟨g, ρ, F, r, w⟩ := rBl h
  unfold eAnd at w
  refine ⟨g, ρ, F, r, ?_⟩
  unfold eBl eBind
  unfold eBind at w
  cases q : ft ρ with
  | ok p =>
    obtain ⟨c, ρ1⟩ := p
    rw [q] at w
    intro v H1 F1 hR1 le rv
    have : v = .bl c := rv
    subst this
    refine ⟨c, rfl, ?_⟩
    cases c with
    | true =>
      refine ⟨g, ρ1, F1, hR1, ?_⟩
      have w' : WG X.K E os g σ F1 rB (fun b H' => Q (.bl b) H') (fb ρ1) := w.mono le
      dsimp only
      cases q2 : fb ρ1 with
      | ok p =>
        obtain ⟨c2, ρ2⟩ := p
        rw [q2] at w'
        intro v H2 F2 hR2 le2 rv2
        have : v = .bl c2 := rv2
        subst this
        exact w' c2 H2 F2 hR2 le2 rfl
      | exc x => rw [q2] at w'; exact w'
      | bad => rw [q2] at w'; exact w'
    | false => exact w false H1 F1 hR1 le rfl
  | exc x => rw [q] at w; exact w
  | bad => rw [q] at w; exact w
theorem de_or {fb : EM Bool} (ha : PE X a (sD X.K E os (eBl ft))) (hb : PE X (.BoolOp .Or (b :: rest) pos) (sD X.K E os (eBl fb))) : PE X (.BoolOp .Or (a :: b :: rest) pos) (sD X.K E os (eBl (eOr ft fb))) := PE.weak (pe_or ha hb) fun σ H Q h => by
  obtain ⟨g, ρ, F, r, w⟩ := rBl h
  unfold eOr at w
  refine ⟨g, ρ, F, r, ?_⟩
  unfold eBl eBind
  unfold eBind at w
  cases q : ft ρ with
  | ok p =>
    obtain ⟨c, ρ1⟩ := p
    rw [q] at w
    intro v H1 F1 hR1 le rv
    have : v = .bl c := rv
    subst this
    refine ⟨c, rfl, ?_⟩
    cases c with
    | false =>
      refine ⟨g, ρ1, F1, hR1, ?_⟩
      have w' : WG X.K E os g σ F1 rB (fun b H' => Q (.bl b) H') (fb ρ1) := w.mono le
      dsimp only
      cases q2 : fb ρ1 with
      | ok p =>
        obtain ⟨c2, ρ2⟩ := p
        rw [q2] at w'
        intro v H2 F2 hR2 le2 rv2
        have : v = .bl c2 := rv2
        subst this
        exact w' c2 H2 F2 hR2 le2 rfl
      | exc x => rw [q2] at w'; exact w'
      | bad => rw [q2] at w'; exact w'
    | true => exact w true H1 F1 hR1 le rfl
  | exc x => rw [q] at w; exact w
  | bad => rw [q] at w; exact w
theorem de_not (ha : PE X a (sD X.K E os (eBl ft))) : PE X (.UnaryOp .Not a pos) (sD X.K E os (eBl (eNot ft))) := PE.weak (pe_not ha) fun σ H Q h => by
  obtain ⟨g, ρ, F, r, w⟩ := rBl h
  unfold eNot at w
  refine ⟨g, ρ, F, r, ?_⟩
  unfold eBl eBind
  unfold eBind at w
  cases q : ft ρ with
  | ok p =>
    obtain ⟨c, ρ1⟩ := p
    rw [q] at w
    intro v H1 F1 hR1 le rv
    have : v = .bl c := rv
    subst this
    exact ⟨c, rfl, w _ H1 F1 hR1 le rfl⟩
  | exc x => rw [q] at w; exact w
  | bad => rw [q] at w; exact w
theorem de_if {c : Expr} {rl : Gh → Ev → L2.St → Hp → Hp → D → V → Prop} (hc : PT X c (sB X.K E os ft)) (ha : PE X a (tG X.K E os rl fa)) (hb : PE X b (tG X.K E os rl fb)) : PE X (.IfExp c a b pos) (tG X.K E os rl (eIf ft fa fb)) := PE.weak (pe_ifExp hc ha hb) fun σ H Q ⟨g, ρ, F, r, w⟩ => by
  refine tG.bind r w fun c c' ρ1 H1 F1 hR1 le1 rx w1 => ?_
  have : c' = c := rx
  subst this
  cases c' with
  | true => exact ⟨g, ρ1, F1, hR1, w1⟩
  | false => exact ⟨g, ρ1, F1, hR1, w1⟩
/-- a value that is True or False, as a test -/
def gBl : D → Res Bool
  | .bl b => .ok b
  | _ => .bad
theorem dt_val (h : PE X e (sD X.K E os fa)) (he : ∀ whole, isTrue e X.env whole = (do let v ← whole; standAt e.pos; holding [v] (truthy v)) := by intro _; rfl) : PT X e (sB X.K E os (e1 gBl fa)) := PT.weak (pt_val h he) fun σ H Q ⟨g, ρ, F, r, w⟩ => by
  refine tG.bind r w fun d v ρ1 H1 F1 hR1 le1 rx w1 => ?_
  cases d with
  | bl b =>
    have : v = .bl b := rx
    subst this
    exact ⟨b, rfl, w1 b H1 F1 hR1 FLe.refl rfl⟩
  | _ => exact w1.elim
end
end DL
/-! DL3: statements, loops, a def's promise. -/
namespace DL
open PySem PySem.Spec L2
set_option autoImplicit false
inductive Fl where
  | nx | rt (d : D) | bk | ct
abbrev SM := Ev → Res (Fl × Ev)
/-- what a def's body keeps to: does it hand back a new object; what is owned at a loop's turns' ends; the slots of lent objects -/
structure Md where
  rtm : Bool
  ol : List Bool
  pp : List Nat
  kt : List Nat := []
def Stat (g : Gh) (md : Md) : Prop := g.pn.map (·.1) = md.pp ∧ g.kt = md.kt
/-- what is handed back -/
def RetOk (K : Frag) (rtm : Bool) (g : Gh) (H F : Hp) (d : D) (v : V) : Prop :=
  match rtm with
  | false => Rep K F d v
  | true => ∃ a, v = .ref a ∧ F a = none ∧ OwnD K F H a d ∧ g.H0 a = none
section
variable (K : Frag) (E : XK) (md : Md) (os os' : List Bool)
def WS (g : Gh) (F : Hp) (Dn : Ends) : Res (Fl × Ev) → Prop
  | .ok (.nx, ρ') => ∀ σ' H' F', R K g os' ρ' σ' H' F' → FLe F F' → Dn.nx σ' H'
  | .ok (.rt d, ρ') => ∀ v σ' H' F' osr, R K g osr ρ' σ' H' F' → RetOk K md.rtm g H' F' d v → Dn.rt v H'
  | .ok (.bk, ρ') => ∀ σ' H' F', R K g md.ol ρ' σ' H' F' → FLe F F' → Dn.bk σ' H'
  | .ok (.ct, ρ') => ∀ σ' H' F', R K g md.ol ρ' σ' H' F' → FLe F F' → Dn.ct σ' H'
  | .exc x => ∀ c dd H' F', ExcOk K g x c dd H' F' → E c dd H'
  | .bad => False
def tS (f : SM) : TS := fun Dn σ H => ∃ g ρ F, R K g os ρ σ H F ∧ Stat g md ∧ WS K E md os' g F Dn (f ρ)
end
def sSeq (f h : SM) : SM := fun ρ => match f ρ with
  | .ok (.nx, ρ') => h ρ'
  | r => r
def sNil : SM := fun ρ => .ok (.nx, ρ)
def sSet (i : Nat) (f : EM D) : SM := fun ρ => match f ρ with
  | .ok (d, ρ') => .ok (.nx, ρ'.set i (some d))
  | .exc x => .exc x
  | .bad => .bad
def sRet (f : EM D) : SM := fun ρ => match f ρ with
  | .ok (d, ρ') => .ok (.rt d, ρ')
  | .exc x => .exc x
  | .bad => .bad
def sDrop {α : Type} (f : EM α) : SM := fun ρ => match f ρ with
  | .ok (_, ρ') => .ok (.nx, ρ')
  | .exc x => .exc x
  | .bad => .bad
def sIf (c : EM Bool) (f h : SM) : SM := fun ρ => match c ρ with
  | .ok (true, ρ') => f ρ'
  | .ok (false, ρ') => h ρ'
  | .exc x => .exc x
  | .bad => .bad
def sBrk : SM := fun ρ => .ok (.bk, ρ)
def sCont : SM := fun ρ => .ok (.ct, ρ)
def sBad : SM := fun _ => .bad
/-- a target takes a datum -/
abbrev Tgt := D → Ev → Res Ev
def gSet (i : Nat) : Tgt := fun d ρ => .ok (ρ.set i (some d))
abbrev Tgts := List D → Ev → Res Ev
def gsNil : Tgts := fun ds ρ => match ds with
  | [] => .ok ρ
  | _ => .bad
def gsCons (t : Tgt) (u : Tgts) : Tgts := fun ds ρ => match ds with
  | d :: r => (match t d ρ with
    | .ok ρ' => u r ρ'
    | _ => .bad)
  | [] => .bad
def gTupT (n : Nat) (u : Tgts) : Tgt := fun d ρ => match d with
  | .tup ds => if ds.length = n then u ds ρ else .bad
  | _ => .bad
def forM (t : Tgt) (b : SM) : List D → SM
  | [], ρ => .ok (.nx, ρ)
  | d :: ds, ρ => match t d ρ with
    | .ok ρ1 => (match b ρ1 with
      | .ok (.nx, ρ2) => forM t b ds ρ2
      | .ok (.ct, ρ2) => forM t b ds ρ2
      | .ok (.bk, ρ2) => .ok (.nx, ρ2)
      | .ok (.rt d, ρ2) => .ok (.rt d, ρ2)
      | .exc x => .exc x
      | .bad => .bad)
    | _ => .bad
def sFor (f : EM (List D)) (t : Tgt) (b : SM) : SM := fun ρ => match f ρ with
  | .ok (ds, ρ') => forM t b ds ρ'
  | .exc x => .exc x
  | .bad => .bad
def whM (c : EM Bool) (b : SM) : Nat → SM
  | 0, _ => .bad
  | n + 1, ρ => match c ρ with
    | .ok (true, ρ1) => (match b ρ1 with
      | .ok (.nx, ρ2) => whM c b n ρ2
      | .ok (.ct, ρ2) => whM c b n ρ2
      | .ok (.bk, ρ2) => .ok (.nx, ρ2)
      | .ok (.rt d, ρ2) => .ok (.rt d, ρ2)
      | .exc x => .exc x
      | .bad => .bad)
    | .ok (false, ρ1) => .ok (.nx, ρ1)
    | .exc x => .exc x
    | .bad => .bad
section
variable {K : Frag} {E : XK} {md : Md} {os os' os1 : List Bool} {g : Gh} {F F1 : Hp} {Dn : Ends}
theorem WS.mono (l : FLe F F1) : ∀ {r : Res (Fl × Ev)}, WS K E md os' g F Dn r → WS K E md os' g F1 Dn r
  | .ok (.nx, ρ'), h => fun σ' H' F' hR le => h σ' H' F' hR (l.trans le)
  | .ok (.rt d, ρ'), h => h
  | .ok (.bk, ρ'), h => fun σ' H' F' hR le => h σ' H' F' hR (l.trans le)
  | .ok (.ct, ρ'), h => fun σ' H' F' hR le => h σ' H' F' hR (l.trans le)
  | .exc x, h => h
  | .bad, h => h
end
section
variable {X : Cx} {E : XK} {md : Md} {os os' os1 : List Bool} {a b e c : Expr} {st : Stmt} {rest sts : List Stmt} {pos : Pos} {fa : EM D} {f h : SM}
theorem PS.weak {t t' : TS} (h : PS X st t) (w : ∀ σ H Q, t' Q σ H → t Q σ H) : PS X st t' := ⟨fun pins s σ H Q I q => h.run pins s σ H Q I (w σ H Q q)⟩
theorem PSs.weak {t t' : TS} (h : PSs X sts t) (w : ∀ σ H Q, t' Q σ H → t Q σ H) : PSs X sts t' := ⟨fun pins s σ H Q I q => h.run pins s σ H Q I (w σ H Q q)⟩
theorem PS.or {t t' : TS} (h : PS X st t) (h' : PS X st t') : PS X st (fun D σ H => t D σ H ∨ t' D σ H) := ⟨fun pins s σ H Q I q => q.elim (h.run pins s σ H Q I) (h'.run pins s σ H Q I)⟩
theorem dss_nil : PSs X [] (tS X.K E md os os sNil) := PSs.weak pss_nil fun σ H Q ⟨g, ρ, F, r, _, w⟩ => w σ H F r FLe.refl
theorem dss_cons (h1 : PS X st (tS X.K E md os os1 f)) (h2 : PSs X rest (tS X.K E md os1 os' h)) : PSs X (st :: rest) (tS X.K E md os os' (sSeq f h)) := PSs.weak (pss_cons h1 h2) fun σ H Q ⟨g, ρ, F, r, hp, w⟩ => by
  refine ⟨g, ρ, F, r, hp, ?_⟩
  unfold sSeq at w
  cases q : f ρ with
  | ok p =>
    obtain ⟨fl, ρ'⟩ := p
    rw [q] at w
    cases fl with
    | nx => exact fun σ' H' F' hR le => ⟨g, ρ', F', hR, hp, w.mono le⟩
    | rt d => exact w
    | bk => exact w
    | ct => exact w
  | exc x => rw [q] at w; exact w
  | bad => rw [q] at w; exact w
theorem pin_not {g : Gh} {md : Md} (hp : Stat g md) {i : Nat} (hi : i ∉ md.pp) : ∀ a, (i, a) ∉ g.pn := fun a h => hi (by rw [← hp.1]; exact List.mem_map.mpr ⟨(i, a), h, rfl⟩)
/-- an owned object becomes data: nothing is done -/
theorem dss_fz (i : Nat) (hi : i ∉ md.pp) (h1 : PSs X sts (tS X.K E md (os.set i false) os' f)) : PSs X sts (tS X.K E md os os' f) := PSs.weak h1 fun σ H Q ⟨g, ρ, F, r, hp, w⟩ => by
  obtain ⟨F', r', le⟩ := r.freeze i (pin_not hp hi)
  exact ⟨g, ρ, F', r', hp, w.mono le⟩
theorem ds_fz (i : Nat) (hi : i ∉ md.pp) (h1 : PS X st (tS X.K E md (os.set i false) os' f)) : PS X st (tS X.K E md os os' f) := PS.weak h1 fun σ H Q ⟨g, ρ, F, r, hp, w⟩ => by
  obtain ⟨F', r', le⟩ := r.freeze i (pin_not hp hi)
  exact ⟨g, ρ, F', r', hp, w.mono le⟩
theorem kt_not {g : Gh} {md : Md} (hp : Stat g md) {i : Nat} (hk : i ∉ md.kt) : i ∉ g.kt := fun h => hk (by rw [← hp.2]; exact h)
theorem ds_set {i : Nat} {tg : Expr} (hs : ∀ {te : TE}, PE X e te → PS X st (tAsg te (gName i))) (hi : i ∉ md.pp) (hk : i ∉ md.kt) (he : PE X e (sD X.K E os fa)) : PS X st (tS X.K E md os (os.set i false) (sSet i fa)) := PS.weak (hs he) fun σ H Q ⟨g, ρ, F, r, hp, w⟩ => by
  refine ⟨g, ρ, F, r, ?_⟩
  unfold sSet at w
  cases q : fa ρ with
  | ok p =>
    obtain ⟨d, ρ'⟩ := p
    rw [q] at w
    exact fun v H' F' hR le hv => w _ H' F' (hR.put (pin_not hp hi) (fun z => absurd z (kt_not hp hk)) hv) le
  | exc x => rw [q] at w; exact w
  | bad => rw [q] at w; exact w
/-- a key: a datum that, if it is a tuple, stands in the heap -/
def rK (K : Frag) : Gh → Ev → L2.St → Hp → Hp → D → V → Prop := fun _ _ _ H F d v => Rep K F d v ∧ ∀ b, v = .ref b → ∃ xs, H b = some (.tup xs)
theorem ds_setK {i : Nat} {tg : Expr} (hs : ∀ {te : TE}, PE X e te → PS X st (tAsg te (gName i))) (hi : i ∉ md.pp) (he : PE X e (tG X.K E os (rK X.K) fa)) : PS X st (tS X.K E md os (os.set i false) (sSet i fa)) := PS.weak (hs he) fun σ H Q ⟨g, ρ, F, r, hp, w⟩ => by
  refine ⟨g, ρ, F, r, ?_⟩
  unfold sSet at w
  cases q : fa ρ with
  | ok p =>
    obtain ⟨d, ρ'⟩ := p
    rw [q] at w
    exact fun v H' F' hR le hv => w _ H' F' (hR.put (pin_not hp hi) (fun _ => hv.2) hv.1) le
  | exc x => rw [q] at w; exact w
  | bad => rw [q] at w; exact w
theorem ds_setO {i : Nat} {tg : Expr} (hs : ∀ {te : TE}, PE X e te → PS X st (tAsg te (gName i))) (hi : i ∉ md.pp) (hk : i ∉ md.kt) (he : PE X e (sO X.K E os fa)) : PS X st (tS X.K E md os (os.set i true) (sSet i fa)) := PS.weak (hs he) fun σ H Q ⟨g, ρ, F, r, hp, w⟩ => by
  refine ⟨g, ρ, F, r, ?_⟩
  unfold sSet at w
  cases q : fa ρ with
  | ok p =>
    obtain ⟨d, ρ'⟩ := p
    rw [q] at w
    intro v H' F' hR le ⟨a, ea, fr⟩
    subst ea
    exact w _ H' F' (hR.own (pin_not hp hi) (kt_not hp hk) fr.f fr.own fr.h0 fun j e _ h1 h2 => fr.ne j e h1 h2) le
  | exc x => rw [q] at w; exact w
  | bad => rw [q] at w; exact w
theorem ds_expr {α : Type} {rl : Gh → Ev → L2.St → Hp → Hp → D → V → Prop} (hs : ∀ {te : TE}, PE X e te → PS X st (tDrop te)) (he : PE X e (tG X.K E os rl fa)) : PS X st (tS X.K E md os os (sDrop fa)) := PS.weak (hs he) fun σ H Q ⟨g, ρ, F, r, hp, w⟩ => by
  refine ⟨g, ρ, F, r, ?_⟩
  unfold sDrop at w
  cases q : fa ρ with
  | ok p =>
    obtain ⟨d, ρ'⟩ := p
    rw [q] at w
    exact fun v H' F' hR le hv => w _ H' F' hR le
  | exc x => rw [q] at w; exact w
  | bad => rw [q] at w; exact w
theorem ds_ret (hm : md.rtm = false) (he : PE X e (sD X.K E os fa)) : PS X (.Return (some e) pos) (tS X.K E md os os' (sRet fa)) := PS.weak (ps_ret he) fun σ H Q ⟨g, ρ, F, r, hp, w⟩ => by
  refine ⟨g, ρ, F, r, ?_⟩
  unfold sRet at w
  cases q : fa ρ with
  | ok p =>
    obtain ⟨d, ρ'⟩ := p
    rw [q] at w
    exact fun v H' F' hR le hv => w v σ H' F' os hR (by rw [hm]; exact hv)
  | exc x => rw [q] at w; exact w
  | bad => rw [q] at w; exact w
theorem ds_retO (hm : md.rtm = true) (he : PE X e (sO X.K E os fa)) : PS X (.Return (some e) pos) (tS X.K E md os os' (sRet fa)) := PS.weak (ps_ret he) fun σ H Q ⟨g, ρ, F, r, hp, w⟩ => by
  refine ⟨g, ρ, F, r, ?_⟩
  unfold sRet at w
  cases q : fa ρ with
  | ok p =>
    obtain ⟨d, ρ'⟩ := p
    rw [q] at w
    exact fun v H' F' hR le ⟨a, ea, fr⟩ => w v σ H' F' os hR (by rw [hm]; exact ⟨a, ea, fr.f, fr.own, fr.h0⟩)
  | exc x => rw [q] at w; exact w
  | bad => rw [q] at w; exact w
/-- a slot's own object is handed back -/
theorem ds_retN {i : Nat} (hm : md.rtm = true) (hi : i ∉ md.pp) (ho : os[i]? = some true) (he : PE X e (tVar i)) : PS X (.Return (some e) pos) (tS X.K E md os os' (sRet (eVar i))) := PS.weak (ps_ret he) fun σ H Q ⟨g, ρ, F, r, hp, w⟩ => by
  unfold sRet at w
  cases q : eVar i ρ with
  | ok p =>
    obtain ⟨d, ρ'⟩ := p
    rw [q] at w
    obtain ⟨h1, rfl⟩ := eVar_ok q
    obtain ⟨a, e1, e2, e3, e4⟩ := r.ow i d ho h1
    refine ⟨.ref a, e1, w _ σ H F os r ?_⟩
    rw [hm]
    refine ⟨a, rfl, e2, e3, ?_⟩
    rcases e4 with ⟨j, hj⟩ | hn
    · obtain ⟨q1, ⟨d2, q2⟩, q3⟩ := r.pin j a hj
      exact (r.dj i j d d2 a (fun z => by subst z; exact pin_not hp hi a hj) ho q1 h1 q2 e1 q3).elim
    · exact hn
  | exc x =>
    unfold eVar at q
    split at q <;> cases q
  | bad => rw [q] at w; exact w.elim
theorem ds_if {sa sb : List Stmt} {ft : EM Bool} (hc : PT X c (sB X.K E os ft)) (ha : PSs X sa (tS X.K E md os os' f)) (hb : PSs X sb (tS X.K E md os os' h)) : PS X (.If c sa sb pos) (tS X.K E md os os' (sIf ft f h)) := PS.weak (ps_if hc ha hb) fun σ H Q ⟨g, ρ, F, r, hp, w⟩ => by
  refine ⟨g, ρ, F, r, ?_⟩
  unfold sIf at w
  cases q : ft ρ with
  | ok p =>
    obtain ⟨d, ρ'⟩ := p
    rw [q] at w
    intro v H' F' hR le hv
    have : v = d := hv
    subst this
    cases v with
    | true => exact ⟨g, ρ', F', hR, hp, w.mono le⟩
    | false => exact ⟨g, ρ', F', hR, hp, w.mono le⟩
  | exc x => rw [q] at w; exact w
  | bad => rw [q] at w; exact w
theorem ds_pass : PS X (.Pass pos) (tS X.K E md os os sNil) := PS.weak ps_pass fun σ H Q ⟨g, ρ, F, r, _, w⟩ => w σ H F r FLe.refl
theorem ds_brk (ho : os = md.ol) : PS X (.Break pos) (tS X.K E md os os' sBrk) := PS.weak ps_break fun σ H Q ⟨g, ρ, F, r, _, w⟩ => by
  subst ho
  exact w σ H F r FLe.refl
theorem ds_cont (ho : os = md.ol) : PS X (.Continue pos) (tS X.K E md os os' sCont) := PS.weak ps_continue fun σ H Q ⟨g, ρ, F, r, _, w⟩ => by
  subst ho
  exact w σ H F r FLe.refl
theorem ds_never : PS X st (tS X.K E md os os' sBad) := PS.weak ps_never fun σ H Q ⟨g, ρ, F, r, _, w⟩ => w
theorem dss_never : PSs X sts (tS X.K E md os os' sBad) := PSs.weak pss_never fun σ H Q ⟨g, ρ, F, r, _, w⟩ => w
/-! ### targets -/
def tT (K : Frag) (md : Md) (os os' : List Bool) (t : Tgt) : TG := fun v σ H Q => ∃ g ρ F d ρ', R K g os ρ σ H F ∧ Stat g md ∧ Rep K F d v ∧ t d ρ = .ok ρ' ∧ ∀ σ', R K g os' ρ' σ' H F → Q σ' H
def tTs (K : Frag) (md : Md) (os os' : List Bool) (t : Tgts) : TGs := fun vs σ H Q => ∃ g ρ F ds ρ', R K g os ρ σ H F ∧ Stat g md ∧ Reps K F ds vs ∧ t ds ρ = .ok ρ' ∧ ∀ σ', R K g os' ρ' σ' H F → Q σ' H
theorem PG.weak {tg : Expr} {t t' : TG} (h : PG X tg t) (w : ∀ v σ H Q, t' v σ H Q → t v σ H Q) : PG X tg t' := ⟨fun pins s σ H v u Q I r q => h.run pins s σ H v u Q I r (w v σ H Q q)⟩
theorem PGs.weak {ts : List Expr} {t t' : TGs} (h : PGs X ts t) (w : ∀ v σ H Q, t' v σ H Q → t v σ H Q) : PGs X ts t' := ⟨fun pins s σ H v u Q I r q => h.run pins s σ H v u Q I r (w v σ H Q q)⟩
variable {tgt : Tgt} {tgts : Tgts} {tg : Expr} {tgs : List Expr}
theorem dg_name {i : Nat} (h : PG X tg (gName i)) (hi : i ∉ md.pp) (hk : i ∉ md.kt) : PG X tg (tT X.K md os (os.set i false) (gSet i)) := PG.weak h fun v σ H Q ⟨g, ρ, F, d, ρ', r, hp, hv, e, w⟩ => by
  cases e
  exact w _ (r.put (pin_not hp hi) (fun z => absurd z (kt_not hp hk)) hv)
theorem dgs_nil : PGs X [] (tTs X.K md os os gsNil) := PGs.weak pgs_nil fun vs σ H Q ⟨g, ρ, F, ds, ρ', r, hp, hv, e, w⟩ => by
  unfold gsNil at e
  split at e
  · cases e
    exact ⟨hv, w σ r⟩
  · cases e
theorem dgs_cons (h1 : PG X tg (tT X.K md os os1 tgt)) (h2 : PGs X tgs (tTs X.K md os1 os' tgts)) (hs : (assignEach (tg :: tgs) X.env).map (·.2) = assign tg X.env :: (assignEach tgs X.env).map (·.2) := by rfl) : PGs X (tg :: tgs) (tTs X.K md os os' (gsCons tgt tgts)) :=
  PGs.weak (pgs_cons h1 h2 hs) fun vs σ H Q ⟨g, ρ, F, ds, ρ', r, hp, hv, e, w⟩ => by
    cases ds with
    | nil => cases e
    | cons d ds =>
      obtain ⟨v, rr, e1, h3, h4⟩ := hv
      subst e1
      have e' : (match tgt d ρ with
        | .ok ρ' => tgts ds ρ'
        | _ => .bad) = .ok ρ' := e
      cases q : tgt d ρ with
      | ok ρ1 =>
        rw [q] at e'
        exact ⟨v, rr, rfl, g, ρ, F, d, ρ1, r, hp, h3, q, fun σ' r' => ⟨g, ρ1, F, ds, ρ', r', hp, h4, e', w⟩⟩
      | exc x => rw [q] at e'; cases e'
      | bad => rw [q] at e'; cases e'
theorem dg_tup {k n : Nat} (hc : X.calm = true) (h : PGs X tgs (tTs X.K md os os' tgts)) (hn : (assignEach tgs X.env).length = n := by rfl) (hst : (assignEach tgs X.env).findIdx? (·.1) = none := by rfl) : PG X (.Tuple tgs k pos) (tT X.K md os os' (gTupT n tgts)) :=
  PG.weak (pg_tup hc h hn hst) fun v σ H Q ⟨g, ρ, F, d, ρ', r, hp, hv, e, w⟩ => by
    cases d with
    | tup ds =>
      obtain ⟨a, vs, ea, ht, hr⟩ := hv
      have e' : (if ds.length = n then tgts ds ρ else .bad) = .ok ρ' := e
      split at e'
      · rename_i hl
        exact ⟨a, vs, ea, ht.sq r.sub, by rw [hr.length]; exact hl, g, ρ, F, ds, ρ', r, hp, hr, e', w⟩
      · cases e'
    | _ => cases e
/-- target = e -/
def sAsg (f : EM D) (t : Tgt) : SM := fun ρ => match f ρ with
  | .ok (d, ρ') => (match t d ρ' with
    | .ok ρ2 => .ok (.nx, ρ2)
    | _ => .bad)
  | .exc x => .exc x
  | .bad => .bad
theorem ds_asg (hs : ∀ {te : TE} {g : TG}, PE X e te → PG X tg g → PS X st (tAsg te g)) (he : PE X e (sD X.K E os fa)) (hg : PG X tg (tT X.K md os os' tgt)) : PS X st (tS X.K E md os os' (sAsg fa tgt)) := PS.weak (hs he hg) fun σ H Q ⟨g, ρ, F, r, hp, w⟩ => by
  refine ⟨g, ρ, F, r, ?_⟩
  unfold sAsg at w
  cases q : fa ρ with
  | ok p =>
    obtain ⟨d, ρ'⟩ := p
    rw [q] at w
    intro v H' F' hR le hv
    dsimp only at w
    cases q2 : tgt d ρ' with
    | ok ρ2 =>
      rw [q2] at w
      exact ⟨g, ρ', F', d, ρ2, hR, hp, hv, q2, fun σ' r' => w σ' H' F' r' le⟩
    | exc x => rw [q2] at w; exact w.elim
    | bad => rw [q2] at w; exact w.elim
  | exc x => rw [q] at w; exact w
  | bad => rw [q] at w; exact w
/-! ### for -/
/-- nothing but new objects -/
def Kp (H F H' F' : Hp) : Prop := (∀ b o, H b = some o → H' b = some o) ∧ ∀ b u, F' b = some u → F b = some u ∨ H b = none ∨ ∃ xs, u = .tup xs ∧ H b = some (.tup xs)
theorem Kp.refl {H F : Hp} : Kp H F H F := ⟨fun _ _ h => h, fun _ _ h => .inl h⟩
/-- J yields the data ds, one after another, wherever F is kept -/
def ItD (K : Frag) (g : Gh) (F : Hp) (ds : List D) (J : It) : Prop := ∀ (os : List Bool) (ρ : Ev) (σ : L2.St) (H F' : Hp) (i : Nat), R K g os ρ σ H F' → FLe F F' →
  (∀ d, ds[i]? = some d → J.go i H ∧ ∀ x H', J.yld i H x H' → ∃ F2, R K g os ρ σ H' F2 ∧ FLe F' F2 ∧ Rep K F2 d x ∧ Kp H F' H' F2) ∧ (ds.length = i → J.stop i H)
def rI (K : Frag) : Gh → Ev → L2.St → Hp → Hp → List D → It → Prop := fun g _ _ _ F ds J => ItD K g F ds J
abbrev sI (K : Frag) (E : XK) (os : List Bool) (f : EM (List D)) : TI := tG K E os (rI K) f
theorem PI.weak {iter : Expr} {t t' : TI} (h : PI X tg iter t) (w : ∀ σ H Q, t' σ H Q → t σ H Q) : PI X tg iter t' := ⟨fun pins s σ H Q I q => h.run pins s σ H Q I (w σ H Q q)⟩
theorem PI.or {iter : Expr} {t t' : TI} (h : PI X tg iter t) (h' : PI X tg iter t') : PI X tg iter (fun σ H Q => t σ H Q ∨ t' σ H Q) := ⟨fun pins s σ H Q I q => q.elim (h.run pins s σ H Q I) (h'.run pins s σ H Q I)⟩
theorem ItD.list {K : Frag} {g : Gh} {F : Hp} {ds : List D} {a : Addr} {vs : List V} (h : LAt K F a vs) (r : Reps K F ds vs) : ItD K g F ds (Itl K a) := by
  intro os ρ σ H F' i hR le
  have hs := (h.mono le).sq hR.sub
  refine ⟨fun d hd => ?_, fun hl => ⟨vs, hs, by rw [r.length]; omega⟩⟩
  obtain ⟨v, hv, rv⟩ := r.get hd
  refine ⟨⟨vs, v, hs, hv⟩, fun x H' ⟨e, hx⟩ => ?_⟩
  subst e
  have := hx vs hs
  rw [hv] at this
  cases this
  exact ⟨F', hR, FLe.refl, Rep.mono le _ _ rv, Kp.refl⟩
theorem ItD.tuple {K : Frag} {g : Gh} {F : Hp} {ds : List D} {a : Addr} {vs : List V} (h : TAt K F a vs) (r : Reps K F ds vs) : ItD K g F ds (Itt K a) := by
  intro os ρ σ H F' i hR le
  have hs := (h.mono le).sq hR.sub
  refine ⟨fun d hd => ?_, fun hl => ⟨vs, hs, by rw [r.length]; omega⟩⟩
  obtain ⟨v, hv, rv⟩ := r.get hd
  refine ⟨⟨vs, v, hs, hv⟩, fun x H' ⟨e, hx⟩ => ?_⟩
  subst e
  have := hx vs hs
  rw [hv] at this
  cases this
  exact ⟨F', hR, FLe.refl, Rep.mono le _ _ rv, Kp.refl⟩
theorem ItD.range {K : Frag} {g : Gh} {F : Hp} {lo : Int} {n : Nat} : ItD K g F ((List.range n).map fun (i : Nat) => D.int (lo + (i : Int))) (Itr lo n) := by
  intro os ρ σ H F' i hR le
  refine ⟨fun d hd => ?_, fun hl => ?_⟩
  · rw [List.getElem?_map] at hd
    have hi : i < n := by
      by_cases q : i < n
      · exact q
      · rw [List.getElem?_eq_none_iff.mpr (by rw [List.length_range]; omega)] at hd; cases hd
    rw [List.getElem?_range hi] at hd
    cases hd
    refine ⟨hi, fun x H' ⟨e, hx⟩ => ?_⟩
    subst e
    exact ⟨F', hR, FLe.refl, hx, Kp.refl⟩
  · rw [List.length_map, List.length_range] at hl
    exact Nat.le_of_eq hl
/-- the items of a list or a tuple -/
def gItems : D → Res (List D)
  | .lst ds => .ok ds
  | .tup ds => .ok ds
  | _ => .bad
theorem gItems_noex (d : D) : Noex (gItems d) := fun x h => by cases d <;> cases h
theorem di_seq {iter : Expr} (h : PE X iter (sD X.K E os fa)) : PI X tg iter (sI X.K E os (e1 gItems fa)) := PI.weak (PI.or (pi_list h) (pi_tup h)) fun σ H Q ⟨g, ρ, F, r, w⟩ => by
  unfold e1 eBind at w
  cases q : fa ρ with
  | ok p =>
    obtain ⟨d, ρ'⟩ := p
    rw [q] at w
    obtain ⟨ds, ed⟩ := WG.okOf (gItems_noex _) w
    have w2 := WG.lift w ed
    cases d with
    | lst xs =>
      cases ed
      left
      refine ⟨g, ρ, F, r, ?_⟩
      rw [q]
      intro v H' F' hR le ⟨a, vs, ea, ha, hr⟩
      exact ⟨a, ea, ⟨vs, ha.sq hR.sub⟩, w2 _ H' F' hR le (.list ha hr)⟩
    | tup xs =>
      cases ed
      right
      refine ⟨g, ρ, F, r, ?_⟩
      rw [q]
      intro v H' F' hR le ⟨a, vs, ea, ha, hr⟩
      exact ⟨a, ea, ⟨vs, ha.sq hR.sub⟩, w2 _ H' F' hR le (.tuple ha hr)⟩
    | _ => cases ed
  | exc x =>
    rw [q] at w
    left
    refine ⟨g, ρ, F, r, ?_⟩
    rw [q]; exact w
  | bad => rw [q] at w; exact w.elim
end
end DL
/-! DL4: loops, a dict walked, a def's promise, calls. -/
namespace DL
open PySem PySem.Spec L2
set_option autoImplicit false
section
variable {K : Frag} {E : XK} {md : Md} {os os1 : List Bool} {g : Gh} {t : Tgt} {b : SM} {tb : TS} {gt : TG} {D0 : Ends} {J : It}
/-- the turns -/
theorem for_turns (hpp : Stat g md) {F : Hp} {ds : List D} (hJ : ItD K g F ds J)
    (hg : ∀ v σ H Q, tT K md os os1 t v σ H Q → gt v σ H Q) (hb : ∀ Dn σ H, tS K E { md with ol := os } os1 os b Dn σ H → tb Dn σ H)
    {σ : L2.St} {H : Hp} {ρ : Ev} (hR : R K g os ρ σ H F) (w : WS K E md os g F D0 (forM t b ds ρ)) :
    ∃ W : Nat → Nat → L2.St → Hp → Prop, (∃ m, W 0 m σ H) ∧ ∀ i m σ H, W i m σ H →
      (J.stop i H ∧ D0.nx σ H) ∨ (J.go i H ∧ ∃ N : L2.St → Hp → Prop, (∀ σ' H', N σ' H' → ∃ m', m' < m ∧ W (i + 1) m' σ' H') ∧ ∀ x H', J.yld i H x H' → gt x σ H' fun σ2 H2 => tb { D0 with nx := N, ct := N, bk := D0.nx } σ2 H2) := by
  refine ⟨fun i m σ H => m = ds.length - i ∧ i ≤ ds.length ∧ ∃ ρ F', R K g os ρ σ H F' ∧ FLe F F' ∧ WS K E md os g F' D0 (forM t b (ds.drop i) ρ), ⟨ds.length, by simp, Nat.zero_le _, ρ, F, hR, FLe.refl, w⟩, ?_⟩
  rintro i m σ H ⟨rfl, hi, ρ, F', hR, le, w⟩
  obtain ⟨h1, h2⟩ := hJ os ρ σ H F' i hR le
  by_cases hlt : i < ds.length
  · right
    obtain ⟨go, hy⟩ := h1 ds[i] (List.getElem?_eq_getElem hlt)
    have hd : ds.drop i = ds[i] :: ds.drop (i + 1) := (List.drop_eq_getElem_cons hlt)
    rw [hd] at w
    refine ⟨go, fun σ' H' => ∃ ρ' F2, R K g os ρ' σ' H' F2 ∧ FLe F F2 ∧ WS K E md os g F2 D0 (forM t b (ds.drop (i + 1)) ρ'), fun σ' H' ⟨ρ', F2, hR2, le2, w2⟩ => ⟨ds.length - (i + 1), by omega, rfl, hlt, ρ', F2, hR2, le2, w2⟩, fun x H' y => ?_⟩
    obtain ⟨F2, hR2, le2, hx, _⟩ := hy x H' y
    have w' : WS K E md os g F' D0 (match t ds[i] ρ with
      | .ok ρ1 => (match b ρ1 with
        | .ok (.nx, ρ2) => forM t b (ds.drop (i + 1)) ρ2
        | .ok (.ct, ρ2) => forM t b (ds.drop (i + 1)) ρ2
        | .ok (.bk, ρ2) => .ok (.nx, ρ2)
        | .ok (.rt d, ρ2) => .ok (.rt d, ρ2)
        | .exc x => .exc x
        | .bad => .bad)
      | _ => .bad) := w
    cases q : t ds[i] ρ with
    | ok ρ1 =>
      rw [q] at w'
      refine hg _ _ _ _ ⟨g, ρ, F2, ds[i], ρ1, hR2, hpp, hx, q, fun σ1 hR3 => ?_⟩
      refine hb _ _ _ ⟨g, ρ1, F2, hR3, hpp, ?_⟩
      have w2 := w'.mono le2
      dsimp only at w2
      cases q2 : b ρ1 with
      | ok p =>
        obtain ⟨fl, ρ2⟩ := p
        rw [q2] at w2
        cases fl with
        | nx => exact fun σ4 H4 F4 hR4 le4 => ⟨ρ2, F4, hR4, le.trans (le2.trans le4), w2.mono le4⟩
        | ct => exact fun σ4 H4 F4 hR4 le4 => ⟨ρ2, F4, hR4, le.trans (le2.trans le4), w2.mono le4⟩
        | bk => exact w2
        | rt d => exact w2
      | exc x => rw [q2] at w2; exact w2
      | bad => rw [q2] at w2; exact w2.elim
    | exc x => rw [q] at w'; exact w'.elim
    | bad => rw [q] at w'; exact w'.elim
  · left
    have e : i = ds.length := by omega
    subst e
    refine ⟨h2 rfl, ?_⟩
    rw [List.drop_length] at w
    exact w σ H F' hR FLe.refl
end
section
variable {X : Cx} {E : XK} {md : Md} {os os1 : List Bool} {iter tg : Expr} {body : List Stmt} {pos : Pos} {f : EM (List D)} {t : Tgt} {b : SM}
theorem ds_for (hp : PassesOwn (model X.prog X.w) X.A X.env X.xe) (hc : X.calm = true) (hi : PI X tg iter (sI X.K E os f)) (hg : PG X tg (tT X.K md os os1 t)) (hb : PSs X body (tS X.K E { md with ol := os } os1 os b))
    (hs : ∀ x, foldedSetIterable iter X.env x = pure x := by intro _; rfl) : PS X (.For tg iter body [] pos) (tS X.K E md os os (sFor f t b)) :=
  PS.weak (ps_for hp hc hi hg hb hs) fun σ H Q ⟨g, ρ, F, r, hpp, w⟩ => by
    refine ⟨g, ρ, F, r, ?_⟩
    unfold sFor at w
    cases q : f ρ with
    | ok p =>
      obtain ⟨ds, ρ'⟩ := p
      rw [q] at w
      intro J H' F' hR le hJ
      exact for_turns hpp hJ (fun v σ H Q h => h) (fun Dn σ H h => h) hR (WS.mono le w)
    | exc x => rw [q] at w; exact w
    | bad => rw [q] at w; exact w
theorem ds_while {c : Expr} {ft : EM Bool} {n : Nat} (hp : PassesOwn (model X.prog X.w) X.A X.env X.xe) (hc : PT X c (sB X.K E os ft)) (hb : PSs X body (tS X.K E { md with ol := os } os os b)) :
    PS X (.While c body [] pos) (tS X.K E md os os (whM ft b n)) := PS.weak (ps_while hp hc hb) fun σ H Q ⟨g, ρ, F, r, hpp, w⟩ => by
  refine ⟨fun m σ H => ∃ ρ F', R X.K g os ρ σ H F' ∧ WS X.K E md os g F' Q (whM ft b m ρ), ⟨n, ρ, F, r, w⟩, ?_⟩
  rintro m σ H ⟨ρ, F', hR, w⟩
  cases m with
  | zero => exact w.elim
  | succ m =>
    refine ⟨g, ρ, F', hR, ?_⟩
    unfold whM at w
    cases q : ft ρ with
    | ok p =>
      obtain ⟨k, ρ1⟩ := p
      rw [q] at w
      intro k' H1 F1 hR1 le1 ek
      have : k' = k := ek
      subst this
      cases k' with
      | true =>
        rw [if_pos rfl]
        refine ⟨fun σ' H' => ∃ ρ' F2, R X.K g os ρ' σ' H' F2 ∧ WS X.K E md os g F2 Q (whM ft b m ρ'), fun σ' H' z => ⟨m, Nat.lt_succ_self m, z⟩, g, ρ1, F1, hR1, hpp, ?_⟩
        have w2 := WS.mono le1 w
        dsimp only at w2
        cases q2 : b ρ1 with
        | ok p =>
          obtain ⟨fl, ρ2⟩ := p
          rw [q2] at w2
          cases fl with
          | nx => exact fun σ4 H4 F4 hR4 le4 => ⟨ρ2, F4, hR4, WS.mono le4 w2⟩
          | ct => exact fun σ4 H4 F4 hR4 le4 => ⟨ρ2, F4, hR4, WS.mono le4 w2⟩
          | bk => exact w2
          | rt d => exact w2
        | exc x => rw [q2] at w2; exact w2
        | bad => rw [q2] at w2; exact w2.elim
      | false =>
        rw [if_neg Bool.false_ne_true]
        exact w σ H1 F1 hR1 le1
    | exc x => rw [q] at w; exact w
    | bad => rw [q] at w; exact w
/-! ### a dict walked by its keys -/
def gKeys : D → Res (List D)
  | .dic _ kvs => .ok (kvs.map (·.1))
  | _ => .bad
section
variable {K : Frag} {g : Gh} {ρ : Ev} {σ : L2.St} {H F : Hp}
theorem R.lockd (r : R K g os ρ σ H F) {d : Addr} {u : HO} (od : Obj) (h : H d = some u) (hf : F d = some u) (mu : Mut (some u)) : R K { g with lk := (d, od, u) :: g.lk } os ρ σ (upd H d (.frz od u)) F where
  len := r.len
  leno := r.leno
  sub := fun a v e => by
    by_cases ha : a = d
    · subst ha
      rw [hf] at e; cases e
      exact .inr ⟨mu, od, upd_same⟩
    · exact (r.sub a v e).imp (fun z => by rw [upd_ne ha]; exact z) fun ⟨m, ob, z⟩ => ⟨m, ob, by rw [upd_ne ha]; exact z⟩
  fz := r.fz
  ow := fun i e h1 h2 => by
    obtain ⟨a, e1, e2, e3, e4⟩ := r.ow i e h1 h2
    have ne : a ≠ d := fun z => by subst z; rw [hf] at e2; cases e2
    exact ⟨a, e1, e2, e3.heap (upd_ne ne), e4⟩
  dj := r.dj
  frame := fun b o e hp => by
    by_cases hb : b = d
    · subst hb
      rcases r.frame b o e hp with q | ⟨od', q⟩
      · rw [h] at q; cases q
        exact .inr ⟨od, List.mem_cons_self⟩
      · have := (r.lock b od' o q).1
        rw [h] at this; cases this
        exact mu.elim
    · rcases r.frame b o e hp with q | ⟨od', q⟩
      · exact .inl (by rw [upd_ne hb]; exact q)
      · exact .inr ⟨od', List.mem_cons_of_mem _ q⟩
  f0 := r.f0
  fresh := r.fresh
  fr := fun b ob v hF hH => by
    by_cases hb : b = d
    · subst hb
      rw [upd_same] at hH; cases hH
      exact .inl List.mem_cons_self
    · rw [upd_ne hb] at hH
      exact (r.fr b ob v hF hH).imp (List.mem_cons_of_mem _) id
  pin := r.pin
  lock := fun b ob v hm => by
    rcases List.mem_cons.mp hm with e | hm
    · cases e
      exact ⟨upd_same, hf⟩
    · obtain ⟨k1, k2⟩ := r.lock b ob v hm
      have ne : b ≠ d := fun z => by
        subst z
        rw [h] at k1; cases k1
        exact mu.elim
      exact ⟨by rw [upd_ne ne]; exact k1, k2⟩
  kt := fun i b hm hs => by
    obtain ⟨xs, e⟩ := r.kt i b hm hs
    have ne : b ≠ d := fun z => by
      subst z
      rw [h] at e; cases e
      exact mu.elim
    exact ⟨xs, by rw [upd_ne ne]; exact e⟩
theorem R.unlockd {d : Addr} {u : HO} {od : Obj} (r : R K { g with lk := (d, od, u) :: g.lk } os ρ σ H F) (hn : ∀ ob v, (d, ob, v) ∉ g.lk) (hn0 : ∀ ob v, g.H0 d ≠ some (.frz ob v)) : R K g os ρ σ (upd H d u) F := by
  obtain ⟨hd, hf⟩ := r.lock d od u List.mem_cons_self
  refine ⟨r.len, r.leno, fun a v e => ?_, r.fz, fun i e h1 h2 => ?_, r.dj, fun b o e hp => ?_, r.f0, r.fresh, fun b ob v q1 q2 => ?_, r.pin, fun b ob v hm => ?_, fun i b hm hs => ?_⟩
  · by_cases ha : a = d
    · subst ha
      rw [hf] at e; cases e
      exact .inl upd_same
    · exact (r.sub a v e).imp (fun z => by rw [upd_ne ha]; exact z) fun ⟨m, ob, z⟩ => ⟨m, ob, by rw [upd_ne ha]; exact z⟩
  · obtain ⟨a, e1, e2, e3, e4⟩ := r.ow i e h1 h2
    have ne : a ≠ d := fun z => by subst z; rw [hf] at e2; cases e2
    exact ⟨a, e1, e2, e3.heap (upd_ne ne), e4⟩
  · rcases r.frame b o e hp with q | ⟨od', q⟩
    · by_cases hb : b = d
      · subst hb
        rw [hd] at q; cases q
        exact absurd e (hn0 _ _)
      · exact .inl (by rw [upd_ne hb]; exact q)
    · rcases List.mem_cons.mp q with z | z
      · cases z
        exact .inl upd_same
      · exact .inr ⟨od', z⟩
  · by_cases hb : b = d
    · subst hb
      rw [upd_same] at q2; cases q2
      rw [hf] at q1; cases q1
    · rw [upd_ne hb] at q2
      rcases r.fr b ob v q1 q2 with z | z
      · rcases List.mem_cons.mp z with z | z
        · cases z
          exact absurd rfl hb
        · exact .inl z
      · exact .inr z
  · obtain ⟨k1, k2⟩ := r.lock b ob v (List.mem_cons_of_mem _ hm)
    have ne : b ≠ d := fun z => by subst z; exact hn _ _ hm
    exact ⟨by rw [upd_ne ne]; exact k1, k2⟩
  · obtain ⟨xs, e⟩ := r.kt i b hm hs
    have ne : b ≠ d := fun z => by
      subst z
      rw [hd] at e; cases e
    exact ⟨xs, by rw [upd_ne ne]; exact e⟩
theorem R.lock_facts (r : R K g os ρ σ H F) {d : Addr} {u : HO} (h : H d = some u) (hf : F d = some u) (mu : Mut (some u)) : (∀ ob v, (d, ob, v) ∉ g.lk) ∧ ∀ ob v, g.H0 d ≠ some (.frz ob v) := by
  refine ⟨fun ob v hm => ?_, fun ob v e => ?_⟩
  · have := (r.lock d ob v hm).1
    rw [h] at this; cases this
    exact mu.elim
  · have np : ∀ j, (j, d) ∉ g.pn := fun j hj => by
      obtain ⟨q1, ⟨d2, q2⟩, q3⟩ := r.pin j d hj
      obtain ⟨a, e1, e2, _⟩ := r.ow j d2 q1 q2
      rw [q3] at e1; cases e1
      rw [hf] at e2; cases e2
    rcases r.frame d _ e np with q | ⟨od', q⟩
    · rw [h] at q; cases q
      exact mu.elim
    · have := (r.lock d od' _ q).1
      rw [h] at this; cases this
      exact mu.elim
end
theorem WS.lockd {g : Gh} {K : Frag} {F : Hp} {d : Addr} {u : HO} {od : Obj} {Dn : Ends} (hn : ∀ ob v, (d, ob, v) ∉ g.lk) (hn0 : ∀ ob v, g.H0 d ≠ some (.frz ob v)) (hx : ∀ x c dd H' F', ExcOk K { g with lk := (d, od, u) :: g.lk } x c dd H' F' → E c dd H' → E c dd H') : ∀ {r : Res (Fl × Ev)}, (∀ x, r ≠ .exc x) → WS K E md os g F Dn r →
    WS K E md os { g with lk := (d, od, u) :: g.lk } F ⟨fun σ' H' => H' d = some (.frz od u) ∧ Dn.nx σ' (upd H' d u), fun v H' => H' d = some (.frz od u) ∧ Dn.rt v (upd H' d u), fun σ' H' => H' d = some (.frz od u) ∧ Dn.bk σ' (upd H' d u), fun σ' H' => H' d = some (.frz od u) ∧ Dn.ct σ' (upd H' d u)⟩ r
  | .ok (.nx, ρ'), _, h => fun σ' H' F' hR le => ⟨(hR.lock d od u List.mem_cons_self).1, h σ' _ F' (hR.unlockd hn hn0) le⟩
  | .ok (.rt e, ρ'), _, h => fun v σ' H' F' osr hR ro => ⟨(hR.lock d od u List.mem_cons_self).1, h v σ' _ F' osr (hR.unlockd hn hn0) (by
      obtain ⟨hd, hf⟩ := hR.lock d od u List.mem_cons_self
      cases q : md.rtm with
      | false => rw [q] at ro; exact ro
      | true =>
        rw [q] at ro
        obtain ⟨a, e1, e2, e3, e4⟩ := ro
        have ne : a ≠ d := fun z => by subst z; rw [hf] at e2; cases e2
        exact ⟨a, e1, e2, e3.heap (upd_ne ne), e4⟩)⟩
  | .ok (.bk, ρ'), _, h => fun σ' H' F' hR le => ⟨(hR.lock d od u List.mem_cons_self).1, h σ' _ F' (hR.unlockd hn hn0) le⟩
  | .ok (.ct, ρ'), _, h => fun σ' H' F' hR le => ⟨(hR.lock d od u List.mem_cons_self).1, h σ' _ F' (hR.unlockd hn hn0) le⟩
  | .exc x, hx, h => absurd rfl (hx x)
  | .bad, _, h => h
end
end DL
namespace DL
open PySem PySem.Spec L2
section
variable {K : Frag} {g : Gh} {os : List Bool} {ρ : Ev} {σ : L2.St} {H F : Hp}
theorem R.frz_stays (r : R K g os ρ σ H F) {a : Addr} {od : Obj} {u : HO} (h : H a = some (.frz od u)) (hf : F a = some u) {os' : List Bool} {ρ' : Ev} {σ' : L2.St} {H' F' : Hp} (r' : R K g os' ρ' σ' H' F') (le : FLe F F') : H' a = some (.frz od u) := by
  rcases r.fr a od u hf h with z | z
  · exact (r'.lock a od u z).1
  · have np : ∀ j, (j, a) ∉ g.pn := fun j hj => by
      obtain ⟨q1, ⟨d2, q2⟩, q3⟩ := r.pin j a hj
      obtain ⟨a', e1, e2, _⟩ := r.ow j d2 q1 q2
      rw [q3] at e1; cases e1
      rw [hf] at e2; cases e2
    rcases r'.frame a _ z np with q | ⟨od', q⟩
    · exact q
    · obtain ⟨k1, k2⟩ := r'.lock a od' _ q
      have := le a u hf
      rw [k2] at this
      have e : HO.frz od u = u := Option.some.inj this
      exact absurd (congrArg sizeOf e) (by simp)
theorem RepK.key : ∀ {kvs : List (D × D)} {l : List (Key × V)} {i : Nat} {d : D} {k : Key} {v : V}, RepK K F kvs l → (kvs.map (·.1))[i]? = some d → l[i]? = some (k, v) → d = kD k
  | [], l, i, d, k, v, h, e, e2 => by simp at e
  | (k0, d0) :: r, l, 0, d, k, v, h, e, e2 => by
    obtain ⟨k', v', r', e1, e3, _⟩ := h
    subst e1
    have a : k0 = d := by simpa using e
    have b : k' = k ∧ v' = v := by simpa using e2
    rw [← a, e3, b.1]
  | (k0, d0) :: r, l, i + 1, d, k, v, h, e, e2 => by
    obtain ⟨k', v', r', e1, e3, _, h4⟩ := h
    subst e1
    exact RepK.key (i := i) h4 (by simpa using e) (by simpa using e2)
theorem RepT.key : ∀ {kvs : List (D × D)} {l : List (List Key × V)} {i : Nat} {d : D} {k : List Key} {v : V}, RepT K F kvs l → (kvs.map (·.1))[i]? = some d → l[i]? = some (k, v) → d = .tup (k.map kD)
  | [], l, i, d, k, v, h, e, e2 => by simp at e
  | (k0, d0) :: r, l, 0, d, k, v, h, e, e2 => by
    obtain ⟨k', v', r', e1, e3, _⟩ := h
    subst e1
    have a : k0 = d := by simpa using e
    have b : k' = k ∧ v' = v := by simpa using e2
    rw [← a, e3, b.1]
  | (k0, d0) :: r, l, i + 1, d, k, v, h, e, e2 => by
    obtain ⟨k', v', r', e1, e3, _, h4⟩ := h
    subst e1
    exact RepT.key (i := i) h4 (by simpa using e) (by simpa using e2)
theorem RepK.length : ∀ {kvs : List (D × D)} {l : List (Key × V)}, RepK K F kvs l → l.length = kvs.length
  | [], l, h => by rw [show l = [] from h]; rfl
  | (k, d) :: r, l, h => by
    obtain ⟨k', v', r', e1, _, _, h4⟩ := h
    subst e1
    rw [List.length_cons, List.length_cons, RepK.length h4]
theorem RepT.length : ∀ {kvs : List (D × D)} {l : List (List Key × V)}, RepT K F kvs l → l.length = kvs.length
  | [], l, h => by rw [show l = [] from h]; rfl
  | (k, d) :: r, l, h => by
    obtain ⟨k', v', r', e1, _, _, h4⟩ := h
    subst e1
    rw [List.length_cons, List.length_cons, RepT.length h4]
theorem rep_kD (k : Key) : Rep K F (kD k) (kV k) := by cases k <;> rfl
theorem reps_kD : ∀ k : List Key, Reps K F (k.map kD) (k.map kV)
  | [] => rfl
  | k :: r => ⟨_, _, rfl, rep_kD k, reps_kD r⟩
/-- a tuple that stands in the heap is data -/
theorem R.tup (r : R K g os ρ σ H F) {q : Addr} {xs : List V} (h : H q = some (.tup xs)) : ∃ F2, R K g os ρ σ H F2 ∧ FLe F F2 ∧ F2 q = some (.tup xs) ∧ Kp H F H F2 := by
  cases e : F q with
  | some u =>
    rcases r.sub q u e with z | ⟨m, ob, z⟩
    · rw [h] at z
      exact ⟨F, r, FLe.refl, by rw [e, ← z], Kp.refl⟩
    · rw [h] at z; cases z
  | none =>
    refine ⟨upd F q (.tup xs), r.frozen h e ?_ (fun _ _ z => nomatch z) (fun i d h1 h2 h3 => ?_), FLe.upd e, upd_same, fun _ _ z => z, fun b u z => ?_⟩
    · cases e0 : g.H0 q with
      | none => exact .inl rfl
      | some o =>
        have np : ∀ j, (j, q) ∉ g.pn := fun j hj => by
          obtain ⟨q1, ⟨d2, q2⟩, q3⟩ := r.pin j q hj
          obtain ⟨a', e1, _, e3, _⟩ := r.ow j d2 q1 q2
          rw [q3] at e1; cases e1
          obtain ⟨o', e4, mo⟩ := e3.there
          rw [h] at e4; cases e4
          exact mo.elim
        rcases r.frame q o e0 np with z | ⟨od, z⟩
        · rw [h] at z; cases z
          exact .inr ⟨xs, rfl, rfl⟩
        · have := (r.lock q od o z).1
          rw [h] at this; cases this
    · obtain ⟨a', e1, _, e3, _⟩ := r.ow i d h1 h2
      rw [h3] at e1; cases e1
      obtain ⟨o', e4, mo⟩ := e3.there
      rw [h] at e4; cases e4
      exact mo.elim
    · by_cases hb : b = q
      · subst hb
        rw [upd_same] at z; cases z
        exact .inr (.inr ⟨xs, rfl, h⟩)
      · rw [upd_ne hb] at z; exact .inl z
theorem ItD.keys {a : Addr} {od : Obj} {kvs : List (D × D)} {l : List (Key × V)} (hs : ∀ os' ρ' σ' H' F', R K g os' ρ' σ' H' F' → FLe F F' → H' a = some (.frz od (.dK l))) (h : RepK K F kvs l) : ItD K g F (kvs.map (·.1)) (Itk a od l) := by
  intro os ρ σ H F' i hR le
  have ha := hs os ρ σ H F' hR le
  refine ⟨fun d hd => ?_, fun hl => ⟨ha, by rw [h.length, ← hl, List.length_map]; exact Nat.le_refl _⟩⟩
  have hi : i < l.length := by
    rw [h.length]
    have := (List.getElem?_eq_some_iff.mp hd).1
    rwa [List.length_map] at this
  refine ⟨⟨ha, hi⟩, fun x H' ⟨e, k, v, hk, hx⟩ => ?_⟩
  subst e
  rw [h.key hd hk, hx]
  exact ⟨F', hR, FLe.refl, rep_kD k, Kp.refl⟩
theorem ItD.keysT {a : Addr} {od : Obj} {kvs : List (D × D)} {l : List (List Key × V)} (hs : ∀ os' ρ' σ' H' F', R K g os' ρ' σ' H' F' → FLe F F' → H' a = some (.frz od (.dT l))) (h : RepT K F kvs l) : ItD K g F (kvs.map (·.1)) (Itkt a od l) := by
  intro os ρ σ H F' i hR le
  have ha := hs os ρ σ H F' hR le
  refine ⟨fun d hd => ?_, fun hl => ⟨ha, by rw [h.length, ← hl, List.length_map]; exact Nat.le_refl _⟩⟩
  have hi : i < l.length := by
    rw [h.length]
    have := (List.getElem?_eq_some_iff.mp hd).1
    rwa [List.length_map] at this
  refine ⟨⟨ha, hi⟩, fun x H' ⟨e, k, v, q, hk, hx, hq⟩ => ?_⟩
  subst e
  rw [h.key hd hk, hx]
  obtain ⟨F2, hR2, le2, h2, kp⟩ := hR.tup hq
  exact ⟨F2, hR2, le2, ⟨q, _, rfl, .inl h2, reps_kD k⟩, kp⟩
end
def noX (f : SM) : SM := fun ρ => match f ρ with
  | .exc _ => .bad
  | r => r
section
variable {X : Cx} {E : XK} {md : Md} {os os1 : List Bool} {tg : Expr} {body : List Stmt} {pos npos : Pos} {t : Tgt} {b : SM} {x : Str}
/-- for k in d, d a name -/
theorem ds_forK {i : Nat} (hp : PassesOwn (model X.prog X.w) X.A X.env X.xe) (hc : X.calm = true) (hv : PE X (.Name x npos) (tVar i)) (ho : os[i]? = some false) (hg : PG X tg (tT X.K md os os1 t)) (hb : PSs X body (tS X.K E { md with ol := os } os1 os b))
    (hs : ∀ x', foldedSetIterable (.Name x npos) X.env x' = pure x' := by intro _; rfl) : PS X (.For tg (.Name x npos) body [] pos) (tS X.K E md os os (noX (sFor (e1 gKeys (eVar i)) t b))) :=
  PS.weak (PS.or (ps_lock (ps_for hp hc (pi_keys hv) hg hb hs)) (ps_for hp hc (pi_keys hv) hg hb hs)) fun σ H Q ⟨g, ρ, F, r, hpp, w⟩ => by
    unfold noX sFor e1 eBind at w
    cases q : eVar i ρ with
    | ok p =>
      obtain ⟨d, ρ'⟩ := p
      obtain ⟨h1, rfl⟩ := eVar_ok q
      rw [q] at w
      cases d with
      | dic tt kvs =>
        obtain ⟨v, e1, e2⟩ := r.fz i _ ho h1
        obtain ⟨a, ea, e2⟩ := e2
        subst ea
        have hne : ∀ x, forM t b (kvs.map (·.1)) ρ' ≠ .exc x := fun x z => by
          have w2 : WS X.K E md os g F Q (match forM t b (kvs.map (·.1)) ρ' with
            | .exc _ => .bad
            | r => r) := w
          rw [z] at w2
          exact w2
        have w3 : WS X.K E md os g F Q (forM t b (kvs.map (·.1)) ρ') := by
          have w2 : WS X.K E md os g F Q (match forM t b (kvs.map (·.1)) ρ' with
            | .exc _ => .bad
            | r => r) := w
          cases z : forM t b (kvs.map (·.1)) ρ' with
          | ok p => rw [z] at w2; exact w2
          | exc x => exact absurd z (hne x)
          | bad => rw [z] at w2; exact w2
        rcases e2 with ⟨_, l, hf, hk⟩ | ⟨_, l, hf, hk⟩
        · rcases r.sub a _ hf with hh | ⟨mu, od, hh⟩
          · left
            obtain ⟨n1, n2⟩ := r.lock_facts hh hf trivial
            refine ⟨a, _, hh, trivial, fun od => ?_⟩
            have r2 := r.lockd od hh hf trivial
            exact ⟨.ref a, e1, a, od, rfl, .inl ⟨l, upd_same, for_turns (g := { g with lk := (a, od, .dK l) :: g.lk }) hpp (ItD.keys (fun os' ρ' σ' H' F' r' le => (r'.lock a od _ List.mem_cons_self).1) hk) (fun _ _ _ _ h => h) (fun _ _ _ h => h) r2 (WS.lockd n1 n2 (fun _ _ _ _ _ _ h => h) hne w3)⟩⟩
          · right
            exact ⟨.ref a, e1, a, od, rfl, .inl ⟨l, hh, for_turns hpp (ItD.keys (fun os' ρ' σ' H' F' r' le => r.frz_stays hh hf r' le) hk) (fun _ _ _ _ h => h) (fun _ _ _ h => h) r w3⟩⟩
        · rcases r.sub a _ hf with hh | ⟨mu, od, hh⟩
          · left
            obtain ⟨n1, n2⟩ := r.lock_facts hh hf trivial
            refine ⟨a, _, hh, trivial, fun od => ?_⟩
            have r2 := r.lockd od hh hf trivial
            exact ⟨.ref a, e1, a, od, rfl, .inr ⟨l, upd_same, for_turns (g := { g with lk := (a, od, .dT l) :: g.lk }) hpp (ItD.keysT (fun os' ρ' σ' H' F' r' le => (r'.lock a od _ List.mem_cons_self).1) hk) (fun _ _ _ _ h => h) (fun _ _ _ h => h) r2 (WS.lockd n1 n2 (fun _ _ _ _ _ _ h => h) hne w3)⟩⟩
          · right
            exact ⟨.ref a, e1, a, od, rfl, .inr ⟨l, hh, for_turns hpp (ItD.keysT (fun os' ρ' σ' H' F' r' le => r.frz_stays hh hf r' le) hk) (fun _ _ _ _ h => h) (fun _ _ _ h => h) r w3⟩⟩
      | _ => exact w.elim
    | exc x =>
      unfold eVar at q
      split at q <;> cases q
    | bad => rw [q] at w; exact w.elim
end
end DL
/-! DL5: a def's promise, calls. -/
namespace DL
open PySem PySem.Spec L2
set_option autoImplicit false
/-! ### promises -/
def pinsFrom : Nat → List Bool → List V → List (Nat × Addr)
  | i, true :: as, .ref a :: vs => (i, a) :: pinsFrom (i + 1) as vs
  | i, _ :: as, _ :: vs => pinsFrom (i + 1) as vs
  | _, _, _ => []
def ownIdx : Nat → List Bool → List Nat
  | i, true :: as => i :: ownIdx (i + 1) as
  | i, false :: as => ownIdx (i + 1) as
  | _, [] => []
structure AOk (K : Frag) (F H : Hp) (as : List Bool) (ds : List D) (vs : List V) : Prop where
  l1 : ds.length = as.length
  l2 : vs.length = as.length
  sub : ∀ a u, F a = some u → Rd' H a u
  fz : ∀ (i : Nat) (d : D), as[i]? = some false → ds[i]? = some d → ∃ v, vs[i]? = some v ∧ Rep K F d v
  ow : ∀ (i : Nat) (d : D), as[i]? = some true → ds[i]? = some d → ∃ a, vs[i]? = some (.ref a) ∧ F a = none ∧ OwnD K F H a d
  dj : ∀ (i j : Nat) (a : Addr), i ≠ j → as[i]? = some true → as[j]? = some true → vs[i]? = some (.ref a) → vs[j]? = some (.ref a) → False
structure POk (K : Frag) (as : List Bool) (rtm : Bool) (F H : Hp) (vs : List V) (d : D) (ds' : List D) (F' H' : Hp) (v : V) : Prop where
  sub : ∀ a u, F' a = some u → Rd' H' a u
  le : FLe F F'
  fresh : ∀ b u, F' b = some u → F b = some u ∨ H b = none ∨ ∃ xs, u = .tup xs ∧ H b = some (.tup xs)
  fr : ∀ b od u, F' b = some u → H' b = some (.frz od u) → H b = some (.frz od u)
  frame : ∀ b o, H b = some o → (∀ j : Nat, as[j]? = some true → vs[j]? ≠ some (.ref b)) → H' b = some o
  ow : ∀ (i : Nat) (a : Addr), as[i]? = some true → vs[i]? = some (.ref a) → ∃ d, ds'[i]? = some d ∧ OwnD K F' H' a d
  ret : match rtm with
    | false => Rep K F' d v
    | true => ∃ a, v = .ref a ∧ F' a = none ∧ OwnD K F' H' a d ∧ H a = none
/-- the promise of a def that computes m: as tells the lent arguments, rtm a new object handed back -/
def spD (K : Frag) (as : List Bool) (rtm : Bool) (m : List D → Res (D × List D)) : Sp := fun vs H Q E =>
  ∃ F ds, AOk K F H as ds vs ∧ match m ds with
    | .ok (d, ds') => ∀ v F' H', POk K as rtm F H vs d ds' F' H' v → Q v H'
    | .exc x => ∀ c dd H' F', ExcOk K ⟨H, F, pinsFrom 0 as vs, [], []⟩ x c dd H' F' → E c dd H'
    | .bad => False
def initEv (n : Nat) (ds : List D) : Ev := ds.map some ++ List.replicate (n - ds.length) none
def fin (np : Nat) (ρ : Ev) : List D := (ρ.take np).map fun o => o.getD .non
def fnM (n np : Nat) (rtm : Bool) (body : SM) : List D → Res (D × List D) := fun ds => match body (initEv n ds) with
  | .ok (.nx, ρ) => if rtm = true then .bad else .ok (.non, fin np ρ)
  | .ok (.rt d, ρ) => .ok (d, fin np ρ)
  | .ok _ => .bad
  | .exc x => .exc x
  | .bad => .bad
theorem mem_pinsFrom : ∀ {as : List Bool} {vs : List V} {i j : Nat} {a : Addr}, (j, a) ∈ pinsFrom i as vs ↔ ∃ k, j = i + k ∧ as[k]? = some true ∧ vs[k]? = some (.ref a)
  | [], vs, i, j, a => by
    constructor
    · intro h
      cases vs <;> cases h
    · rintro ⟨k, _, h, _⟩
      simp at h
  | b :: as, [], i, j, a => by
    constructor
    · intro h
      cases b <;> cases h
    · rintro ⟨k, _, _, h⟩
      simp at h
  | b :: as, v :: vs, i, j, a => by
    have ih := @mem_pinsFrom as vs (i + 1) j a
    have step : (j, a) ∈ pinsFrom i (b :: as) (v :: vs) ↔ (b = true ∧ v = .ref a ∧ j = i) ∨ (j, a) ∈ pinsFrom (i + 1) as vs := by
      cases b with
      | false =>
        show (j, a) ∈ pinsFrom (i + 1) as vs ↔ _
        simp
      | true =>
        cases v with
        | ref c =>
          show (j, a) ∈ (i, c) :: pinsFrom (i + 1) as vs ↔ _
          rw [List.mem_cons]
          constructor
          · rintro (h | h)
            · cases h; exact .inl ⟨rfl, rfl, rfl⟩
            · exact .inr h
          · rintro (⟨_, h, h2⟩ | h)
            · cases h; subst h2; exact .inl rfl
            · exact .inr h
        | _ =>
          show (j, a) ∈ pinsFrom (i + 1) as vs ↔ _
          simp
    rw [step, ih]
    constructor
    · rintro (⟨h1, h2, h3⟩ | ⟨k, h1, h2, h3⟩)
      · exact ⟨0, by omega, by rw [h1]; rfl, by rw [h2]; rfl⟩
      · exact ⟨k + 1, by omega, by simpa using h2, by simpa using h3⟩
    · rintro ⟨k, h1, h2, h3⟩
      cases k with
      | zero => exact .inl ⟨by simpa using h2, by simpa using h3, by omega⟩
      | succ k => exact .inr ⟨k, by omega, by simpa using h2, by simpa using h3⟩
theorem pins_idx : ∀ {as : List Bool} {vs : List V} {i : Nat}, vs.length = as.length → (∀ k : Nat, as[k]? = some true → ∃ a, vs[k]? = some (.ref a)) → (pinsFrom i as vs).map (·.1) = ownIdx i as
  | [], [], i, _, _ => rfl
  | [], v :: vs, i, h, _ => by cases h
  | b :: as, [], i, h, _ => by cases h
  | b :: as, v :: vs, i, hl, h => by
    have ih := @pins_idx as vs (i + 1) (by simpa using hl) fun k hk => by
      obtain ⟨a, ha⟩ := h (k + 1) (by simpa using hk)
      exact ⟨a, by simpa using ha⟩
    cases b with
    | false => exact ih
    | true =>
      obtain ⟨a, ha⟩ := h 0 rfl
      have : v = .ref a := by simpa using ha
      subst this
      show i :: (pinsFrom (i + 1) as vs).map (·.1) = i :: ownIdx (i + 1) as
      rw [ih]
/-! ### a def keeps its promise -/
section
variable {P : Program} {w : World} {K : Frag} {mg : Str → Option Value} {base : Heap} {x qual : Str} {params : Arguments} {body : List Stmt} {scope : Scope} {dvs : List V} {kws : List (Str × V)} {f : Addr} {fd : FuncData}
theorem get_init {n i : Nat} {ds : List D} : (initEv n ds)[i]? = if i < ds.length then (ds[i]?).map some else if i < n then some none else none := by
  unfold initEv
  by_cases h : i < ds.length
  · rw [if_pos h, List.getElem?_append_left (by rw [List.length_map]; exact h), List.getElem?_map]
  · rw [if_neg h, List.getElem?_append_right (by rw [List.length_map]; omega), List.getElem?_replicate, List.length_map]
    by_cases h2 : i < n
    · rw [if_pos h2, if_pos (by omega)]
    · rw [if_neg h2, if_neg (by omega)]
theorem get_start {N : List Str} {vs : List V} {i : Nat} (h : i < vs.length) : (L2.start N vs)[i]? = (vs[i]?).map some := by
  unfold L2.start
  rw [List.getElem?_append_left (by rw [List.length_map]; exact h), List.getElem?_map]
theorem init_ev_some {n i : Nat} {ds : List D} {d : D} (h : (initEv n ds)[i]? = some (some d)) : ds[i]? = some d := by
  rw [get_init] at h
  split at h
  · cases e : ds[i]? with
    | none => rw [e] at h; cases h
    | some z => rw [e] at h; cases h; rfl
  · split at h <;> cases h
/-- what a def's body begins with -/
theorem R.start {kt : List Nat} {H F : Hp} {as : List Bool} {ds : List D} {vs : List V} {N : List Str} (h : AOk K F H as ds vs) (hN : as.length ≤ N.length) (hkt : ∀ i ∈ kt, as.length ≤ i) :
    R K ⟨H, F, pinsFrom 0 as vs, [], kt⟩ (as ++ List.replicate (N.length - as.length) false) (initEv N.length ds) (L2.start N vs) H F := by
  have l1 := h.l1
  have l2 := h.l2
  have tag : ∀ {i : Nat} {b : Bool} {d : D}, (as ++ List.replicate (N.length - as.length) false)[i]? = some b → (initEv N.length ds)[i]? = some (some d) → as[i]? = some b ∧ ds[i]? = some d ∧ i < vs.length := fun {i b d} h1 h2 => by
    have hd := init_ev_some h2
    have hi : i < as.length := by rw [← l1]; exact (List.getElem?_eq_some_iff.mp hd).1
    rw [List.getElem?_append_left hi] at h1
    exact ⟨h1, hd, by omega⟩
  refine ⟨?_, ?_, h.sub, fun i d h1 h2 => ?_, fun i d h1 h2 => ?_, fun i j d e a hne h1 h2 h3 h4 h5 h6 => ?_, fun b o e _ => .inl e, FLe.refl, fun b u e => .inl e, fun b od u h1 h2 => .inr h2, fun i a hm => ?_, (fun d od u hm => nomatch hm), fun i b hm hs => ?_⟩
  · unfold L2.start initEv
    simp only [List.length_append, List.length_map, List.length_replicate]
    omega
  · unfold initEv
    simp only [List.length_append, List.length_map, List.length_replicate]
    omega
  · obtain ⟨k1, k2, k3⟩ := tag h1 h2
    obtain ⟨v, hv, r⟩ := h.fz i d k1 k2
    exact ⟨v, by rw [get_start k3, hv]; rfl, r⟩
  · obtain ⟨k1, k2, k3⟩ := tag h1 h2
    obtain ⟨a, hv, r1, r2⟩ := h.ow i d k1 k2
    exact ⟨a, by rw [get_start k3, hv]; rfl, r1, r2, .inl ⟨i, mem_pinsFrom.mpr ⟨i, by omega, k1, hv⟩⟩⟩
  · obtain ⟨k1, k2, k3⟩ := tag h1 h3
    obtain ⟨k4, k5, k6⟩ := tag h2 h4
    rw [get_start k3] at h5
    rw [get_start k6] at h6
    obtain ⟨v, e1, e2⟩ := Option.map_eq_some_iff.mp h5
    obtain ⟨v', e3, e4⟩ := Option.map_eq_some_iff.mp h6
    cases e2
    cases e4
    exact h.dj i j a hne k1 k4 e1 e3
  · obtain ⟨k, e, k1, k2⟩ := mem_pinsFrom.mp hm
    have e' : i = k := by omega
    subst e'
    have hi : i < as.length := (List.getElem?_eq_some_iff.mp k1).1
    refine ⟨by rw [List.getElem?_append_left hi]; exact k1, ⟨ds[i]'(by omega), ?_⟩, ?_⟩
    · rw [get_init, if_pos (by omega), List.getElem?_eq_getElem (by omega)]; rfl
    · rw [get_start (by omega), k2]; rfl
  · have hi := hkt i hm
    unfold L2.start at hs
    rw [List.getElem?_append_right (by rw [List.length_map]; omega), List.getElem?_replicate] at hs
    split at hs <;> cases hs
theorem fin_get {np i : Nat} {ρ : Ev} {d : D} (hi : i < np) (h : ρ[i]? = some (some d)) : (fin np ρ)[i]? = some d := by
  unfold fin
  rw [List.getElem?_map, List.getElem?_take_of_lt hi, h]
  rfl
/-- the end of a def's body -/
theorem POk.of {kt : List Nat} {H F : Hp} {as : List Bool} {rtm : Bool} {vs : List V} {os : List Bool} {ρ : Ev} {σ : L2.St} {H' F' : Hp} {d : D} {v : V} (r : R K ⟨H, F, pinsFrom 0 as vs, [], kt⟩ os ρ σ H' F') (ro : RetOk K rtm ⟨H, F, pinsFrom 0 as vs, [], kt⟩ H' F' d v) : POk K as rtm F H vs d (fin as.length ρ) F' H' v where
  sub := r.sub
  le := r.f0
  fresh := r.fresh
  fr := fun b od u h1 h2 => (r.fr b od u h1 h2).elim (fun z => nomatch z) id
  frame := fun b o e hp => (r.frame b o e fun j hj => by
    obtain ⟨k, _, k1, k2⟩ := mem_pinsFrom.mp hj
    exact hp k k1 k2).elim id fun ⟨_, z⟩ => nomatch z
  ow := fun i a h1 h2 => by
    obtain ⟨k1, ⟨e, k2⟩, k3⟩ := r.pin i a (mem_pinsFrom.mpr ⟨i, by omega, h1, h2⟩)
    obtain ⟨a', q1, q2, q3, _⟩ := r.ow i e k1 k2
    rw [k3] at q1; cases q1
    exact ⟨e, fin_get (List.getElem?_eq_some_iff.mp h1).1 k2, q3⟩
  ret := by cases rtm <;> exact ro
/-- THE RULE: a def that lets nothing out -/
theorem fn_D {N ps : List Str} {k : Nat} {as : List Bool} {rtm : Bool} {b : SM} {os' : List Bool} {kt : List Nat} (F0 : FunD K x qual params body scope dvs kws f fd) (S : FnScope N ps scope) (hps : as.length = ps.length) (hN : as.length ≤ N.length) (hkt : ∀ i ∈ kt, as.length ≤ i)
    (hbody : ∀ (cdv : Value) (A : Around) (outer : List Env) (s : Shared) (H : Hp) (E : XK), Room k (A.deeper (PyProof.Rows.envOfC qual scope s.heap.objs.size f cdv)) →
      PSs (cxOf CX0 P w K mg base N qual scope f cdv A outer s H E).nox body (tS K E ⟨rtm, [], ownIdx 0 as, kt⟩ (as ++ List.replicate (N.length - as.length) false) os' b)) :
    FnOk P w K mg base CX0 (k + 1) f fd ps (spD K as rtm (fnM N.length as.length rtm b)) := by
  refine F0.ok S (fun vs H Q E h => ?_) fun cdv A outer s H vs Q E hr h => ⟨_, PSs.nox (hbody cdv A outer s H E hr), ?_⟩
  · obtain ⟨F, ds, ha, _⟩ := h
    rw [ha.l2, hps]
  · obtain ⟨F, ds, ha, hq⟩ := h
    refine ⟨⟨H, F, pinsFrom 0 as vs, [], kt⟩, initEv N.length ds, F, R.start ha hN hkt, ⟨?_, rfl⟩, ?_⟩
    · refine pins_idx ha.l2 fun k hk => ?_
      have hi : k < ds.length := by rw [ha.l1]; exact (List.getElem?_eq_some_iff.mp hk).1
      obtain ⟨a, h1, _⟩ := ha.ow k _ hk (List.getElem?_eq_getElem hi)
      exact ⟨a, h1⟩
    · unfold fnM at hq
      cases q : b (initEv N.length ds) with
      | ok p =>
        obtain ⟨fl, ρ⟩ := p
        rw [q] at hq
        cases fl with
        | nx =>
          intro σ' H' F' hR le
          cases rtm with
          | true => exact hq.elim
          | false => exact hq .non F' H' (POk.of hR rfl)
        | rt d => exact fun v σ' H' F' osr hR ro => hq v F' H' (POk.of hR ro)
        | bk => exact hq.elim
        | ct => exact hq.elim
      | exc x =>
        rw [q] at hq
        intro c dd H' F' he
        exact hq c dd H' F' ⟨he.cls, he.fld, he.sub, he.frame, he.f0, he.fresh⟩
      | bad => rw [q] at hq; exact hq.elim
end
end DL
namespace DL
open PySem PySem.Spec L2
/-! ### calls -/
def ArgR (K : Frag) (σ : L2.St) (F : Hp) : List (Option Nat) → List D → List V → Prop
  | [], ds, vs => ds = [] ∧ vs = []
  | none :: ks, ds, vs => ∃ d r v s, ds = d :: r ∧ vs = v :: s ∧ Rep K F d v ∧ ArgR K σ F ks r s
  | some i :: ks, ds, vs => ∃ r v s, ds = D.non :: r ∧ vs = v :: s ∧ σ[i]? = some (some v) ∧ ArgR K σ F ks r s
def rC (K : Frag) (ks : List (Option Nat)) : Gh → Ev → L2.St → Hp → Hp → List D → List V → Prop := fun _ _ σ _ F ds vs => ArgR K σ F ks ds vs
abbrev sC (K : Frag) (E : XK) (os : List Bool) (ks : List (Option Nat)) (f : EM (List D)) : TA := tG K E os (rC K ks) f
def eConsO (i : Nat) (f : EM (List D)) : EM (List D) := eBind (eVar i) fun _ => eBind f fun ds => eRet (D.non :: ds)
def fill : List (Option Nat) → List D → Ev → Option (List D)
  | [], [], _ => some []
  | none :: ks, d :: ds, ρ => match fill ks ds ρ with
    | some r => some (d :: r)
    | none => none
  | some i :: ks, _ :: ds, ρ => match ρ[i]? with
    | some (some d) => (match fill ks ds ρ with
      | some r => some (d :: r)
      | none => none)
    | _ => none
  | _, _, _ => none
def back : List (Option Nat) → List D → Ev → Ev
  | none :: ks, _ :: ds, ρ => back ks ds ρ
  | some i :: ks, d :: ds, ρ => back ks ds (ρ.set i (some d))
  | _, _, ρ => ρ
def callM (ks : List (Option Nat)) (m : List D → Res (D × List D)) (ds : List D) : EM D := fun ρ => match fill ks ds ρ with
  | none => .bad
  | some ds1 => match m ds1 with
    | .ok (d, ds') => .ok (d, back ks ds' ρ)
    | .exc x => .exc x
    | .bad => .bad
def eCall (ks : List (Option Nat)) (m : List D → Res (D × List D)) (f : EM (List D)) : EM D := eBind f fun ds => callM ks m ds
theorem back_len : ∀ {ks : List (Option Nat)} {ds : List D} {ρ : Ev}, (back ks ds ρ).length = ρ.length
  | [], ds, ρ => by cases ds <;> rfl
  | none :: ks, [], ρ => rfl
  | none :: ks, d :: ds, ρ => back_len (ks := ks) (ds := ds)
  | some i :: ks, [], ρ => rfl
  | some i :: ks, d :: ds, ρ => by
    show (back ks ds (ρ.set i (some d))).length = _
    rw [back_len, List.length_set]
theorem back_out : ∀ {ks : List (Option Nat)} {ds : List D} {ρ : Ev} {i : Nat}, some i ∉ ks → (back ks ds ρ)[i]? = ρ[i]?
  | [], ds, ρ, i, _ => by cases ds <;> rfl
  | none :: ks, [], ρ, i, _ => rfl
  | none :: ks, d :: ds, ρ, i, h => back_out (ks := ks) (ds := ds) (fun z => h (List.mem_cons_of_mem _ z))
  | some j :: ks, [], ρ, i, _ => rfl
  | some j :: ks, d :: ds, ρ, i, h => by
    show (back ks ds (ρ.set j (some d)))[i]? = _
    rw [back_out (fun z => h (List.mem_cons_of_mem _ z)), List.getElem?_set_ne (fun z => h (by rw [z]; exact List.mem_cons_self))]
theorem back_in : ∀ {ks : List (Option Nat)} {ds : List D} {ρ : Ev} {i j : Nat} {d : D}, (ks.filterMap id).Nodup → ks[j]? = some (some i) → ds[j]? = some d → i < ρ.length → (back ks ds ρ)[i]? = some (some d)
  | [], ds, ρ, i, j, d, _, h, _, _ => by simp at h
  | none :: ks, [], ρ, i, j, d, _, _, h, _ => by simp at h
  | none :: ks, d0 :: ds, ρ, i, 0, d, _, h, _, _ => by simp at h
  | none :: ks, d0 :: ds, ρ, i, j + 1, d, hn, h, h2, h3 => back_in (ks := ks) (ds := ds) (j := j) (by simpa using hn) (by simpa using h) (by simpa using h2) h3
  | some k :: ks, [], ρ, i, j, d, _, _, h, _ => by simp at h
  | some k :: ks, d0 :: ds, ρ, i, 0, d, hn, h, h2, h3 => by
    have e1 : k = i := by simpa using h
    have e2 : d0 = d := by simpa using h2
    subst e1 e2
    show (back ks ds (ρ.set k (some d0)))[k]? = _
    have : some k ∉ ks := fun z => by
      have hn' : (k :: ks.filterMap id).Nodup := by simpa using hn
      exact (List.nodup_cons.mp hn').1 (List.mem_filterMap.mpr ⟨some k, z, rfl⟩)
    rw [back_out this, List.getElem?_set_self h3]
  | some k :: ks, d0 :: ds, ρ, i, j + 1, d, hn, h, h2, h3 => by
    have hn' : (k :: ks.filterMap id).Nodup := by simpa using hn
    exact back_in (ks := ks) (ds := ds) (j := j) (ρ := ρ.set k (some d0)) (List.nodup_cons.mp hn').2 (by simpa using h) (by simpa using h2) (by rw [List.length_set]; exact h3)
section
variable {K : Frag} {σ : L2.St} {F H : Hp} {ρ : Ev}
theorem ArgR.facts : ∀ {ks : List (Option Nat)} {ds ds1 : List D} {vs : List V}, ArgR K σ F ks ds vs → fill ks ds ρ = some ds1 → ds1.length = ks.length ∧ vs.length = ks.length ∧
    (∀ (i : Nat) (d : D), ks[i]? = some none → ds1[i]? = some d → ∃ v, vs[i]? = some v ∧ Rep K F d v) ∧
    (∀ (i s : Nat), ks[i]? = some (some s) → ∃ d, ρ[s]? = some (some d) ∧ ds1[i]? = some d ∧ ∃ v, vs[i]? = some v ∧ σ[s]? = some (some v))
  | [], ds, ds1, vs, h, hf => by
    obtain ⟨rfl, rfl⟩ := h
    have : ds1 = [] := by simpa [fill] using hf.symm
    subst this
    exact ⟨rfl, rfl, fun i d h => by simp at h, fun i s h => by simp at h⟩
  | none :: ks, ds, ds1, vs, h, hf => by
    obtain ⟨d, r, v, s, rfl, rfl, hv, ha⟩ := h
    unfold fill at hf
    cases q : fill ks r ρ with
    | none => rw [q] at hf; cases hf
    | some r1 =>
      rw [q] at hf
      cases hf
      obtain ⟨l1, l2, h1, h2⟩ := ArgR.facts ha q
      refine ⟨by simp [l1], by simp [l2], fun i e k1 k2 => ?_, fun i t k1 => ?_⟩
      · cases i with
        | zero =>
          have : d = e := by simpa using k2
          subst this
          exact ⟨v, rfl, hv⟩
        | succ i => exact h1 i e (by simpa using k1) (by simpa using k2)
      · cases i with
        | zero => simp at k1
        | succ i =>
          obtain ⟨d', q1, q2, v', q3, q4⟩ := h2 i t (by simpa using k1)
          exact ⟨d', q1, by simpa using q2, v', by simpa using q3, q4⟩
  | some j :: ks, ds, ds1, vs, h, hf => by
    obtain ⟨r, v, s, rfl, rfl, hv, ha⟩ := h
    unfold fill at hf
    split at hf
    · rename_i d hd
      cases q : fill ks r ρ with
      | none => rw [q] at hf; cases hf
      | some r1 =>
        rw [q] at hf
        cases hf
        obtain ⟨l1, l2, h1, h2⟩ := ArgR.facts ha q
        refine ⟨by simp [l1], by simp [l2], fun i e k1 k2 => ?_, fun i t k1 => ?_⟩
        · cases i with
          | zero => simp at k1
          | succ i => exact h1 i e (by simpa using k1) (by simpa using k2)
        · cases i with
          | zero =>
            have : j = t := by simpa using k1
            subst this
            exact ⟨d, hd, rfl, v, rfl, hv⟩
          | succ i =>
            obtain ⟨d', q1, q2, v', q3, q4⟩ := h2 i t (by simpa using k1)
            exact ⟨d', q1, by simpa using q2, v', by simpa using q3, q4⟩
    · cases hf
theorem nodup_slot {ks : List (Option Nat)} (hn : (ks.filterMap id).Nodup) : ∀ {i j s : Nat}, ks[i]? = some (some s) → ks[j]? = some (some s) → i = j := by
  induction ks with
  | nil => intro i j s h; simp at h
  | cons k ks ih =>
    intro i j s h1 h2
    have key : ∀ {t : Nat}, k = some t → some t ∉ ks := fun {t} e z => by
      subst e
      have hn' : (t :: ks.filterMap id).Nodup := by simpa using hn
      exact (List.nodup_cons.mp hn').1 (List.mem_filterMap.mpr ⟨some t, z, rfl⟩)
    have hn2 : (ks.filterMap id).Nodup := by
      cases k with
      | none => simpa using hn
      | some t =>
        have hn' : (t :: ks.filterMap id).Nodup := by simpa using hn
        exact (List.nodup_cons.mp hn').2
    cases i with
    | zero =>
      cases j with
      | zero => rfl
      | succ j =>
        exact absurd (List.mem_of_getElem? (by simpa using h2)) (key (by simpa using h1))
    | succ i =>
      cases j with
      | zero => exact absurd (List.mem_of_getElem? (by simpa using h1)) (key (by simpa using h2))
      | succ j => exact congrArg Nat.succ (ih hn2 (s := s) (by simpa using h1) (by simpa using h2))
variable {g : Gh} {os : List Bool}
theorem isSome_at {ks : List (Option Nat)} {i : Nat} {b : Bool} (h : (ks.map Option.isSome)[i]? = some b) : ∃ k, ks[i]? = some k ∧ k.isSome = b := by
  rw [List.getElem?_map] at h
  obtain ⟨k, h1, h2⟩ := Option.map_eq_some_iff.mp h
  exact ⟨k, h1, h2⟩
theorem R.fresh_tup (r : R K g os ρ σ H F) {b : Addr} {u : HO} {xs : List V} (z1 : u = .tup xs) (z2 : H b = some (.tup xs)) : g.F0 b = some u ∨ g.H0 b = none ∨ ∃ xs, u = .tup xs ∧ g.H0 b = some (.tup xs) := by
  subst z1
  cases e0 : g.H0 b with
  | none => exact .inr (.inl rfl)
  | some o =>
    have np : ∀ j, (j, b) ∉ g.pn := fun j hj => by
      obtain ⟨q1, ⟨d2, q2⟩, q3⟩ := r.pin j b hj
      obtain ⟨a', e1, _, e3, _⟩ := r.ow j d2 q1 q2
      rw [q3] at e1; cases e1
      obtain ⟨o', e4, mo⟩ := e3.there
      rw [z2] at e4; cases e4
      exact mo.elim
    rcases r.frame b o e0 np with z | ⟨od, z⟩
    · rw [z2] at z; cases z
      exact .inr (.inr ⟨xs, rfl, rfl⟩)
    · have := (r.lock b od o z).1
      rw [z2] at this; cases this
theorem R.args (r : R K g os ρ σ H F) {ks : List (Option Nat)} {ds ds1 : List D} {vs : List V} (ha : ArgR K σ F ks ds vs) (hf : fill ks ds ρ = some ds1) (ho : ∀ i, some i ∈ ks → os[i]? = some true) (hn : (ks.filterMap id).Nodup) : AOk K F H (ks.map Option.isSome) ds1 vs := by
  obtain ⟨l1, l2, h1, h2⟩ := ha.facts hf
  refine ⟨by rw [List.length_map]; exact l1, by rw [List.length_map]; exact l2, r.sub, fun i d k1 k2 => ?_, fun i d k1 k2 => ?_, fun i j a hne k1 k2 k3 k4 => ?_⟩
  · obtain ⟨k, q1, q2⟩ := isSome_at k1
    cases k with
    | none => exact h1 i d q1 k2
    | some s => cases q2
  · obtain ⟨k, q1, q2⟩ := isSome_at k1
    cases k with
    | none => cases q2
    | some s =>
      obtain ⟨d', p1, p2, v, p3, p4⟩ := h2 i s q1
      rw [k2] at p2
      cases p2
      obtain ⟨a, e1, e2, e3, _⟩ := r.ow s d (ho s (List.mem_of_getElem? q1)) p1
      rw [p4] at e1
      cases e1
      exact ⟨a, p3, e2, e3⟩
  · obtain ⟨k, q1, q2⟩ := isSome_at k1
    obtain ⟨k', q3, q4⟩ := isSome_at k2
    cases k with
    | none => cases q2
    | some s =>
      cases k' with
      | none => cases q4
      | some t =>
        obtain ⟨d', p1, p2, v, p3, p4⟩ := h2 i s q1
        obtain ⟨d2, p5, p6, v', p7, p8⟩ := h2 j t q3
        rw [k3] at p3
        rw [k4] at p7
        cases p3
        cases p7
        by_cases e : s = t
        · subst e
          exact hne (nodup_slot hn q1 q3)
        · exact r.dj s t d' d2 a e (ho s (List.mem_of_getElem? q1)) (ho t (List.mem_of_getElem? q3)) p1 p5 p4 p8
/-- behind a call -/
theorem R.called (r : R K g os ρ σ H F) {ks : List (Option Nat)} {ds ds1 : List D} {vs : List V} (ha : ArgR K σ F ks ds vs) (hf : fill ks ds ρ = some ds1) (ho : ∀ i, some i ∈ ks → os[i]? = some true) (hn : (ks.filterMap id).Nodup)
    {rtm : Bool} {d : D} {ds' : List D} {F' H' : Hp} {v : V} (k : POk K (ks.map Option.isSome) rtm F H vs d ds' F' H' v) : R K g os (back ks ds' ρ) σ H' F' := by
  obtain ⟨l1, l2, h1, h2⟩ := ha.facts hf
  -- the lent objects
  have lent : ∀ {j : Nat} {b : Addr}, (ks.map Option.isSome)[j]? = some true → vs[j]? = some (.ref b) → ∃ s e, ks[j]? = some (some s) ∧ os[s]? = some true ∧ ρ[s]? = some (some e) ∧ σ[s]? = some (some (.ref b)) := fun {j b} q1 q2 => by
    obtain ⟨k', q3, q4⟩ := isSome_at q1
    cases k' with
    | none => cases q4
    | some s =>
      obtain ⟨e, p1, p2, v', p3, p4⟩ := h2 j s q3
      rw [q2] at p3
      cases p3
      exact ⟨s, e, q3, ho s (List.mem_of_getElem? q3), p1, p4⟩
  have here : ∀ {i : Nat} {e : D}, (back ks ds' ρ)[i]? = some (some e) → some i ∈ ks → ∃ j, ks[j]? = some (some i) ∧ ∃ e0 a, ρ[i]? = some (some e0) ∧ σ[i]? = some (some (.ref a)) ∧ F a = none ∧ OwnD K F H a e0 ∧ ((∃ j, (j, a) ∈ g.pn) ∨ g.H0 a = none) ∧ OwnD K F' H' a e := fun {i e} q1 q2 => by
    obtain ⟨j, hj⟩ := List.getElem?_of_mem q2
    obtain ⟨e0, p1, p2, v', p3, p4⟩ := h2 j i hj
    obtain ⟨a, e1, e2, e3, e4⟩ := r.ow i e0 (ho i q2) p1
    rw [p4] at e1
    cases e1
    obtain ⟨e', k1, k2⟩ := k.ow j a (by rw [List.getElem?_map, hj]; rfl) p3
    rw [back_in hn hj k1 (List.getElem?_eq_some_iff.mp p1).1] at q1
    cases q1
    exact ⟨j, hj, e0, a, p1, p4, e2, e3, e4, k2⟩
  have was : ∀ {i : Nat} {e : D}, (back ks ds' ρ)[i]? = some (some e) → ∃ e0, ρ[i]? = some (some e0) := fun {i e} q => by
    by_cases hm : some i ∈ ks
    · obtain ⟨_, _, e0, _, q1, _⟩ := here q hm
      exact ⟨e0, q1⟩
    · rw [back_out hm] at q; exact ⟨e, q⟩
  have nF : ∀ {b : Addr} {o : HO}, H b = some o → Mut (some o) → F b = none → F' b = none := fun {b o} q m n => by
    cases z : F' b with
    | none => rfl
    | some u =>
      rcases k.fresh b u z with z | z | ⟨xs, _, z⟩
      · rw [n] at z; cases z
      · rw [q] at z; cases z
      · rw [q] at z; cases z; exact m.elim
  refine ⟨by rw [back_len]; exact r.len, by rw [back_len]; exact r.leno, k.sub, fun i e q1 q2 => ?_, fun i e q1 q2 => ?_, fun i j e1 e2 a hne q1 q2 q3 q4 q5 q6 => ?_, fun b o q hp => ?_, r.f0.trans k.le, fun b u q => ?_, fun b od u q1 q2 => ?_, fun i a hm => ?_, fun b od u hm => ?_, fun i b hm hs => ?_⟩
  · have hm : some i ∉ ks := fun z => by rw [ho i z] at q1; cases q1
    rw [back_out hm] at q2
    obtain ⟨v', p1, p2⟩ := r.fz i e q1 q2
    exact ⟨v', p1, Rep.mono k.le _ _ p2⟩
  · by_cases hm : some i ∈ ks
    · obtain ⟨j, hj, e0, a, p1, p2, p3, p4, p5, p6⟩ := here q2 hm
      obtain ⟨o, ho', mo⟩ := p4.there
      exact ⟨a, p2, nF ho' mo p3, p6, p5⟩
    · rw [back_out hm] at q2
      obtain ⟨a, p1, p2, p3, p4⟩ := r.ow i e q1 q2
      obtain ⟨o, ho', mo⟩ := p3.there
      have eH : H' a = H a := by
        rw [ho']
        refine k.frame a o ho' fun j z1 z2 => ?_
        obtain ⟨s, e', y1, y2, y3, y4⟩ := lent z1 z2
        exact r.dj s i e' e a (fun z => by subst z; exact hm (List.mem_of_getElem? y1)) y2 q1 y3 q2 y4 p1
      exact ⟨a, p1, nF ho' mo p2, (p3.heap eH).mono k.le, p4⟩
  · obtain ⟨w1, z1⟩ := was q3
    obtain ⟨w2, z2⟩ := was q4
    exact r.dj i j w1 w2 a hne q1 q2 z1 z2 q5 q6
  · rcases r.frame b o q hp with z | z
    · refine .inl (k.frame b o z fun j z1 z2 => ?_)
      obtain ⟨s, e', y1, y2, y3, y4⟩ := lent z1 z2
      obtain ⟨a, p1, _, _, p4⟩ := r.ow s e' y2 y3
      rw [y4] at p1
      cases p1
      rcases p4 with ⟨j, hj⟩ | hz
      · exact hp j hj
      · rw [q] at hz; cases hz
    · exact .inr z
  · rcases k.fresh b u q with z | z | ⟨xs, z1, z2⟩
    · exact r.fresh b u z
    · exact .inr (.inl (r.h0_none z))
    · exact r.fresh_tup z1 z2
  · have z0 := k.fr b od u q1 q2
    rcases k.fresh b u q1 with z | z | ⟨xs, z1, z2⟩
    · exact r.fr b od u z z0
    · rw [z0] at z; cases z
    · rw [z0] at z2; cases z2
  · obtain ⟨k1, ⟨e, k2⟩, k3⟩ := r.pin i a hm
    refine ⟨k1, ?_, k3⟩
    by_cases hmm : some i ∈ ks
    · obtain ⟨j, hj⟩ := List.getElem?_of_mem hmm
      obtain ⟨e0, p1, p2, v', p3, p4⟩ := h2 j i hj
      rw [k3] at p4
      cases p4
      obtain ⟨e', k4, k5⟩ := k.ow j a (by rw [List.getElem?_map, hj]; rfl) p3
      exact ⟨e', back_in hn hj k4 (List.getElem?_eq_some_iff.mp p1).1⟩
    · exact ⟨e, by rw [back_out hmm]; exact k2⟩
  · obtain ⟨k1, k2⟩ := r.lock b od u hm
    refine ⟨k.frame b _ k1 fun j z1 z2 => ?_, k.le _ _ k2⟩
    obtain ⟨s, e', y1, y2, y3, y4⟩ := lent z1 z2
    obtain ⟨a, p1, p2, _, _⟩ := r.ow s e' y2 y3
    rw [y4] at p1
    cases p1
    rw [k2] at p2; cases p2
  · obtain ⟨xs, e⟩ := r.kt i b hm hs
    refine ⟨xs, k.frame b _ e fun j z1 z2 => ?_⟩
    obtain ⟨s, e', y1, y2, y3, y4⟩ := lent z1 z2
    obtain ⟨a, p1, _, p3, _⟩ := r.ow s e' y2 y3
    rw [y4] at p1
    cases p1
    obtain ⟨o, p4, mo⟩ := p3.there
    rw [e] at p4; cases p4
    exact mo.elim
end
section
variable {X : Cx} {E : XK} {os : List Bool} {e : Expr} {es : List Expr} {pos p : Pos} {fa : EM D} {fr : EM (List D)} {ks : List (Option Nat)} {k : Nat} {f : Addr} {fd : FuncData} {ps : List Str} {as : List Bool} {m : List D → Res (D × List D)} {x : Str}
theorem dc_nil : PA X [] (sC X.K E os [] eNil) := PA.weak pa_nil fun σ H Q ⟨g, ρ, F, r, w⟩ => w [] H F r FLe.refl ⟨rfl, rfl⟩
theorem ArgR.mono {K : Frag} {σ : L2.St} {F F' : Hp} (l : FLe F F') : ∀ {ks : List (Option Nat)} {ds : List D} {vs : List V}, ArgR K σ F ks ds vs → ArgR K σ F' ks ds vs
  | [], ds, vs, h => h
  | none :: ks, ds, vs, ⟨d, r, v, s, e1, e2, h, k⟩ => ⟨d, r, v, s, e1, e2, Rep.mono l _ _ h, ArgR.mono l k⟩
  | some i :: ks, ds, vs, ⟨r, v, s, e1, e2, h, k⟩ => ⟨r, v, s, e1, e2, h, ArgR.mono l k⟩
theorem dc_val (ha : PE X e (sD X.K E os fa)) (hr : PA X es (sC X.K E os ks fr)) (hs : starEach (e :: es) X.env = (false, eval e X.env) :: starEach es X.env := by rfl) : PA X (e :: es) (sC X.K E os (none :: ks) (eCons fa fr)) :=
  PA.weak (pa_cons ha hr hs) fun σ H Q ⟨g, ρ, F, r, w⟩ => by
    refine tG.bind r w fun d v ρ1 H1 F1 hR1 le1 rx w1 => ?_
    refine tG.bind hR1 w1 fun ds vs ρ2 H2 F2 hR2 le2 ry w2 => ?_
    exact w2.ret (v :: vs) H2 F2 hR2 FLe.refl ⟨d, ds, v, vs, rfl, rfl, Rep.mono le2 _ _ rx, ry⟩
theorem dc_own {i : Nat} (ha : PE X e (tVar i)) (hr : PA X es (sC X.K E os ks fr)) (hs : starEach (e :: es) X.env = (false, eval e X.env) :: starEach es X.env := by rfl) : PA X (e :: es) (sC X.K E os (some i :: ks) (eConsO i fr)) :=
  PA.weak (pa_cons ha hr hs) fun σ H Q ⟨g, ρ, F, r, w⟩ => by
    obtain ⟨d0, h0, w0⟩ := w.var
    obtain ⟨x, hx, _⟩ := r.view h0
    refine ⟨x, hx, ?_⟩
    refine tG.bind r w0 fun ds vs ρ2 H2 F2 hR2 le2 ry w2 => ?_
    exact w2.ret (x :: vs) H2 F2 hR2 FLe.refl ⟨ds, x, vs, rfl, rfl, hx, ry⟩
theorem call_read {K : Frag} {rtm : Bool} {rl : Gh → Ev → L2.St → Hp → Hp → D → V → Prop} {σ : L2.St} {H : Hp} {Q : VK} (ho : ∀ i, some i ∈ ks → os[i]? = some true) (hn : (ks.filterMap id).Nodup)
    (hrl : ∀ (g : Gh) (ρ ρ0 : Ev) (H F H0 F0 : Hp) (vs : List V) (d : D) (ds' : List D) (v : V), R K g os ρ0 σ H0 F0 → (∀ (i : Nat) (e : D), ρ[i]? = some (some e) → ∃ e', ρ0[i]? = some (some e')) → R K g os ρ σ H F → POk K (ks.map Option.isSome) rtm F0 H0 vs d ds' F H v → rl g ρ σ H F d v)
    (h : tG K E os rl (eCall ks m fr) σ H Q) : sC K E os ks fr σ H fun vs H1 => spD K (ks.map Option.isSome) rtm m (vs ++ []) H1 Q E := by
  obtain ⟨g, ρ, F, r, w⟩ := h
  refine tG.bind r w fun ds vs ρ1 H1 F1 hR1 le1 rx w1 => ?_
  rw [List.append_nil]
  unfold callM at w1
  cases q : fill ks ds ρ1 with
  | none => rw [q] at w1; exact w1.elim
  | some ds1 =>
    rw [q] at w1
    refine ⟨F1, ds1, hR1.args rx q ho hn, ?_⟩
    dsimp only at w1
    cases q2 : m ds1 with
    | ok pr =>
      obtain ⟨d, ds'⟩ := pr
      rw [q2] at w1
      intro v F' H' pk
      have r2 := hR1.called rx q ho hn pk
      refine w1 v H' F' r2 pk.le (hrl g _ ρ1 H' F' H1 F1 vs d ds' v hR1 (fun i e h => ?_) r2 pk)
      by_cases hm : some i ∈ ks
      · obtain ⟨j, hj⟩ := List.getElem?_of_mem hm
        obtain ⟨_, _, _, h2⟩ := rx.facts q
        obtain ⟨e0, p1, _⟩ := h2 j i hj
        exact ⟨e0, p1⟩
      · rw [back_out hm] at h; exact ⟨e, h⟩
    | exc x =>
      rw [q2] at w1
      intro c dd H' F' he
      refine w1 c dd H' F' ⟨he.cls, he.fld, he.sub, fun b o q0 hp => ?_, hR1.f0.trans he.f0, fun b u z => ?_⟩
      · rcases hR1.frame b o q0 hp with z | z
        · refine (he.frame b o z fun j hj => ?_).elim .inl fun ⟨_, z⟩ => nomatch z
          obtain ⟨k, _, z1, z2⟩ := mem_pinsFrom.mp hj
          obtain ⟨k', z3, z4⟩ := isSome_at z1
          obtain ⟨_, _, _, h2⟩ := rx.facts q
          cases k' with
          | none => cases z4
          | some s =>
            obtain ⟨e0, p1, p2, v', p3, p4⟩ := h2 k s z3
            rw [z2] at p3
            cases p3
            obtain ⟨a, p5, _, _, p6⟩ := hR1.ow s e0 (ho s (List.mem_of_getElem? z3)) p1
            rw [p4] at p5
            cases p5
            rcases p6 with ⟨j', hj'⟩ | hz
            · exact hp j' hj'
            · rw [q0] at hz; cases hz
        · exact .inr z
      · rcases he.fresh b u z with z | z | ⟨xs, z1, z2⟩
        · exact hR1.fresh b u z
        · exact .inr (.inl (hR1.h0_none z))
        · exact hR1.fresh_tup z1 z2
    | bad => rw [q2] at w1; exact w1.elim
theorem hrl_D {K : Frag} {σ : L2.St} : ∀ (g : Gh) (ρ ρ0 : Ev) (H F H0 F0 : Hp) (vs : List V) (d : D) (ds' : List D) (v : V), R K g os ρ0 σ H0 F0 → (∀ (i : Nat) (e : D), ρ[i]? = some (some e) → ∃ e', ρ0[i]? = some (some e')) → R K g os ρ σ H F → POk K (ks.map Option.isSome) false F0 H0 vs d ds' F H v → rD K g ρ σ H F d v :=
  fun g ρ ρ0 H F H0 F0 vs d ds' v _ _ _ pk => pk.ret
theorem hrl_O {K : Frag} {σ : L2.St} : ∀ (g : Gh) (ρ ρ0 : Ev) (H F H0 F0 : Hp) (vs : List V) (d : D) (ds' : List D) (v : V), R K g os ρ0 σ H0 F0 → (∀ (i : Nat) (e : D), ρ[i]? = some (some e) → ∃ e', ρ0[i]? = some (some e')) → R K g os ρ σ H F → POk K (ks.map Option.isSome) true F0 H0 vs d ds' F H v → rO K os g ρ σ H F d v :=
  fun g ρ ρ0 H F H0 F0 vs d ds' v r0 hw r pk => by
    obtain ⟨a, e1, e2, e3, e4⟩ := pk.ret
    refine ⟨a, e1, e2, e3, r0.h0_none e4, fun i e h1 h2 h3 => ?_⟩
    obtain ⟨e', h4⟩ := hw i e h2
    obtain ⟨b, q1, _, q3, _⟩ := r0.ow i e' h1 h4
    rw [h3] at q1; cases q1
    obtain ⟨o, q4, _⟩ := q3.there
    rw [e4] at q4; cases q4
theorem de_call (F : FnOk X.prog X.w X.K X.mg X.base CX0 k f fd ps (spD X.K as false m)) (has : as = ks.map Option.isSome) (hr : Room k X.A) (hg : Gl X x) (hm : X.mg x = some (.ref f)) (hk : PySem.W.keepIn X.K (.ref f) = true) (hb : Binds X.K fd ps [])
    (ha : PA X (e :: es) (sC X.K E os ks fr)) (ho : ∀ i, some i ∈ ks → os[i]? = some true) (hn : (ks.filterMap id).Nodup) (hdb : (x == ("__debug__" : Str)) = false := by decide) (he : starEach (e :: es) X.env = (false, eval e X.env) :: starEach es X.env := by rfl) (hpl : (backTo pos (starEach es X.env)).any (·.1) = false := by rfl) :
    PE X (.Call (.Name x p) (e :: es) [] pos) (sD X.K E os (eCall ks m fr)) := by
  subst has
  exact PE.weak (pe_call (E := E) F hr hg hm hk hb .nil pass0 ha hdb he hpl) fun σ H Q h => call_read ho hn hrl_D h
theorem do_call (F : FnOk X.prog X.w X.K X.mg X.base CX0 k f fd ps (spD X.K as true m)) (has : as = ks.map Option.isSome) (hr : Room k X.A) (hg : Gl X x) (hm : X.mg x = some (.ref f)) (hk : PySem.W.keepIn X.K (.ref f) = true) (hb : Binds X.K fd ps [])
    (ha : PA X (e :: es) (sC X.K E os ks fr)) (ho : ∀ i, some i ∈ ks → os[i]? = some true) (hn : (ks.filterMap id).Nodup) (hdb : (x == ("__debug__" : Str)) = false := by decide) (he : starEach (e :: es) X.env = (false, eval e X.env) :: starEach es X.env := by rfl) (hpl : (backTo pos (starEach es X.env)).any (·.1) = false := by rfl) :
    PE X (.Call (.Name x p) (e :: es) [] pos) (sO X.K E os (eCall ks m fr)) := by
  subst has
  exact PE.weak (pe_call (E := E) F hr hg hm hk hb .nil pass0 ha hdb he hpl) fun σ H Q h => call_read ho hn hrl_O h
end
end DL
/-! DL6: operators, comparisons, subscripts, stores, built-ins. -/
namespace DL
open PySem PySem.Spec L2
set_option autoImplicit false
/-! ### arithmetic -/
def addD : D → D → Res D
  | .int i, .int j => .ok (.int (i + j))
  | .str x, .str y => if x.length + y.length ≤ sizeLine then .ok (.str (x ++ y)) else .bad
  | .lst xs, .lst ys => if xs.length + ys.length ≤ sizeLine then .ok (.lst (xs ++ ys)) else .bad
  | .tup xs, .tup ys => if xs.length + ys.length ≤ sizeLine ∧ xs ≠ [] ∧ ys ≠ [] then .ok (.tup (xs ++ ys)) else .bad
  | _, _ => .bad
def subD : D → D → Res D
  | .int i, .int j => .ok (.int (i - j))
  | _, _ => .bad
def okMul (i j : Int) : Bool := decide ((-(2 ^ 64) < i ∧ i < 2 ^ 64) ∨ (-(2 ^ 64) < j ∧ j < 2 ^ 64) ∨ i.natAbs.log2 + j.natAbs.log2 < 1000000)
def mulD : D → D → Res D
  | .int i, .int j => if okMul i j = true then .ok (.int (i * j)) else .bad
  | _, _ => .bad
def okDiv (j : Int) : Bool := decide (j ≠ 0 ∧ j.natAbs.log2 < 9000)
def fdivD : D → D → Res D
  | .int i, .int j => if okDiv j = true then .ok (.int (i.fdiv j)) else .bad
  | _, _ => .bad
def modD : D → D → Res D
  | .int i, .int j => if j ≠ 0 then .ok (.int (i.fmod j)) else .bad
  | _, _ => .bad
def powD : D → D → Res D
  | .int i, .int j => if 0 ≤ j ∧ j ≤ 1000000 ∧ i.natAbs < 2 ^ 64 then .ok (.int (i ^ j.toNat)) else .bad
  | _, _ => .bad
def negD : D → Res D
  | .int i => .ok (.int (-i))
  | _ => .bad
theorem noex2 {g2 : D → D → Res D} (h : ∀ x y e, g2 x y ≠ .exc e) : ∀ x y, Noex (g2 x y) := h
theorem addD_nx (x y : D) : Noex (addD x y) := fun e h => by
  unfold addD at h
  split at h <;> first | cases h | (split at h <;> cases h)
theorem subD_nx (x y : D) : Noex (subD x y) := fun e h => by unfold subD at h; split at h <;> cases h
theorem mulD_nx (x y : D) : Noex (mulD x y) := fun e h => by
  unfold mulD at h
  split at h <;> first | cases h | (split at h <;> cases h)
theorem fdivD_nx (x y : D) : Noex (fdivD x y) := fun e h => by
  unfold fdivD at h
  split at h <;> first | cases h | (split at h <;> cases h)
theorem modD_nx (x y : D) : Noex (modD x y) := fun e h => by
  unfold modD at h
  split at h <;> first | cases h | (split at h <;> cases h)
theorem powD_nx (x y : D) : Noex (powD x y) := fun e h => by
  unfold powD at h
  split at h <;> first | cases h | (split at h <;> cases h)
theorem negD_nx (x : D) : Noex (negD x) := fun e h => by unfold negD at h; split at h <;> cases h
section
variable {X : Cx}
def rCatL (K : Frag) : R2 := fun x y H Q => ∃ l b xs zs, x = .ref l ∧ y = .ref b ∧ SqL K H l xs ∧ SqL K H b zs ∧ xs.length + zs.length ≤ sizeLine ∧ ∀ p, H p = none → Q (.ref p) (upd H p (.lst (xs ++ zs)))
theorem op_catL : OpR X (binaryOp .Add) (rCatL X.K) := by
  intro pins s σ H x y v u Q I rx ry h
  obtain ⟨l, b, xs, zs, rfl, rfl, hH, hB, hz, q⟩ := h
  cases rx
  cases ry
  obtain ⟨its, r, pl, z⟩ := I.list hH
  obtain ⟨its2, r2, pl2, z2⟩ := I.list hB
  obtain ⟨⟨cls, dd, data, sl⟩, n, ho, hc, hdd, hd⟩ := id pl
  obtain ⟨⟨cls2, dd2, data2, sl2⟩, n2, ho2, hc2, hdd2, hd2⟩ := id pl2
  simp only at hc hd hc2 hd2
  subst hc hd hc2 hd2
  have l1 := r.length
  have l2 := r2.length
  have e : its.toArray ++ its2.toArray = (its ++ its2).toArray := by simp
  refine concat_meets ⟨_, ho, rfl⟩ ⟨_, ho2, rfl⟩ PySem.noFill_list_add PySem.seq_list_add PySem.F.slot_list_add PySem.F.entry_list_add (PySem.F.args_list_add_2 _ _) (PyProof.Rows.list_addW l b its.toArray its2.toArray n n2 dd dd2 sl sl2 (by simp; omega)) ⟨ho, ho2, ?_⟩
  rw [e]
  refine ⟨.ref s.heap.objs.size, _, I.laid (t' := s.toks) (o := .lst (xs ++ zs)) (fun b ob q => Heap.get?_push_of_some _ q) (Nat.le_refl _) ?_, rfl, q _ (I.hok.fresh (Nat.le_refl _))⟩
  exact ⟨by rw [List.length_append]; exact hz, its ++ its2, 0, r.append r2, Heap.get?_push_size _ rfl⟩
theorem op_fdivA : OpR X (binaryOp .FloorDiv) (L2.rI (fun _ j => j ≠ 0 ∧ j.natAbs.log2 < 9000) fun i j => .int (i.fdiv j)) := opI fun _ _ _ _ _ _ _ hc q => PyProof.Rows.floordiv_int hc.1 q (.inl (PyProof.noPylong_of_log2 hc.2))
abbrev rAdd4 (K : Frag) : R2 := fun x y H Q => (L2.rI0 (fun i j => V.int (i + j)) x y H Q ∨ (∃ i j, x = .str i ∧ y = .str j ∧ i.length + j.length ≤ sizeLine ∧ Q (.str (i ++ j)) H)) ∨ rCatL K x y H Q ∨ rCatT K x y H Q
theorem op_add4 : OpR X (binaryOp .Add) (rAdd4 X.K) := OpR.or (OpR.or op_add op_add_str) (OpR.or op_catL op_catT)
abbrev rMul2 : R2 := fun x y H Q => L2.rI CMul (fun i j => V.int (i * j)) x y H Q ∨ L2.rI CMulW (fun i j => V.int (i * j)) x y H Q
theorem op_mul2 : OpR X (binaryOp .Mult) rMul2 := OpR.or op_mul op_mulW
end
section
variable {K : Frag} {os : List Bool}
theorem reps_ne {F : Hp} {ds : List D} {vs : List V} (r : Reps K F ds vs) (h : ds ≠ []) : vs ≠ [] := fun z => by
  subst z
  have := r.length
  cases ds with
  | nil => exact h rfl
  | cons => cases this
theorem addD_ok : Op2 K os (rAdd4 K) addD (rD K) := by
  intro g ρ σ H F x y dx dy d Q hR vx vy e q
  unfold addD at e
  split at e
  · rename_i i j
    cases e
    exact .inl (.inl ⟨i, j, vx, vy, q _ H F hR FLe.refl rfl⟩)
  · rename_i i j
    split at e
    · rename_i hl
      cases e
      exact .inl (.inr ⟨i, j, vx, vy, hl, q _ H F hR FLe.refl rfl⟩)
    · cases e
  · rename_i xs ys
    split at e
    · rename_i hl
      cases e
      obtain ⟨a, vs, ea, ha, ra⟩ := vx
      obtain ⟨b, ws, eb, hb, rb⟩ := vy
      refine .inr (.inl ⟨a, b, vs, ws, ea, eb, ha, hb, by rw [ra.length, rb.length]; exact hl, fun p hp => ?_⟩)
      have le : FLe F (upd F p (.lst (vs ++ ws))) := FLe.upd (hR.none_of hp)
      exact q _ _ _ (hR.new hp (fun _ _ z => nomatch z)) le ⟨p, _, rfl, .inl upd_same, Reps.mono le _ _ (ra.append rb)⟩
    · cases e
  · rename_i xs ys
    split at e
    · rename_i hl
      cases e
      obtain ⟨a, vs, ea, ha, ra⟩ := vx
      obtain ⟨b, ws, eb, hb, rb⟩ := vy
      refine .inr (.inr ⟨a, b, vs, ws, ea, eb, ha, hb, reps_ne ra hl.2.1, by rw [ra.length, rb.length]; exact hl.1, fun z => absurd z (reps_ne rb hl.2.2), fun _ p hp => ?_⟩)
      have le : FLe F (upd F p (.tup (vs ++ ws))) := FLe.upd (hR.none_of hp)
      exact q _ _ _ (hR.new hp (fun _ _ z => nomatch z)) le ⟨p, _, rfl, .inl upd_same, Reps.mono le _ _ (ra.append rb)⟩
    · cases e
  · cases e
theorem subD_ok : Op2 K os (L2.rI0 fun i j => .int (i - j)) subD (rD K) := by
  intro g ρ σ H F x y dx dy d Q hR vx vy e q
  unfold subD at e
  split at e
  · rename_i i j
    cases e
    exact ⟨i, j, vx, vy, q _ H F hR FLe.refl rfl⟩
  · cases e
theorem mulD_ok : Op2 K os rMul2 mulD (rD K) := by
  intro g ρ σ H F x y dx dy d Q hR vx vy e q
  unfold mulD at e
  split at e
  · rename_i i j
    split at e
    · rename_i hl
      cases e
      have hl' := of_decide_eq_true hl
      rcases hl' with h | h | h
      · exact .inl ⟨i, j, vx, vy, .inl h, q _ H F hR FLe.refl rfl⟩
      · exact .inl ⟨i, j, vx, vy, .inr h, q _ H F hR FLe.refl rfl⟩
      · exact .inr ⟨i, j, vx, vy, h, q _ H F hR FLe.refl rfl⟩
    · cases e
  · cases e
theorem fdivD_ok : Op2 K os (L2.rI (fun _ j => j ≠ 0 ∧ j.natAbs.log2 < 9000) fun i j => .int (i.fdiv j)) fdivD (rD K) := by
  intro g ρ σ H F x y dx dy d Q hR vx vy e q
  unfold fdivD at e
  split at e
  · rename_i i j
    split at e
    · rename_i hl
      cases e
      exact ⟨i, j, vx, vy, of_decide_eq_true hl, q _ H F hR FLe.refl rfl⟩
    · cases e
  · cases e
theorem modD_ok : Op2 K os (L2.rI (fun _ j => j ≠ 0) fun i j => .int (i.fmod j)) modD (rD K) := by
  intro g ρ σ H F x y dx dy d Q hR vx vy e q
  unfold modD at e
  split at e
  · rename_i i j
    split at e
    · rename_i hl
      cases e
      exact ⟨i, j, vx, vy, hl, q _ H F hR FLe.refl rfl⟩
    · cases e
  · cases e
theorem powD_ok : Op2 K os (L2.rI CPow fun i j => .int (i ^ j.toNat)) powD (rD K) := by
  intro g ρ σ H F x y dx dy d Q hR vx vy e q
  unfold powD at e
  split at e
  · rename_i i j
    split at e
    · rename_i hl
      cases e
      exact ⟨i, j, vx, vy, hl, q _ H F hR FLe.refl rfl⟩
    · cases e
  · cases e
theorem negD_ok : Op1 K os (rU fun i => .int (-i)) negD (rD K) := by
  intro g ρ σ H F x dx d Q hR vx e q
  unfold negD at e
  split at e
  · rename_i i
    cases e
    exact ⟨i, vx, q _ H F hR FLe.refl rfl⟩
  · cases e
/-! ### comparisons -/
def cmpD (f : Int → Int → Bool) : D → D → Res Bool
  | .int i, .int j => .ok (f i j)
  | _, _ => .bad
theorem cmpD_nx (f : Int → Int → Bool) (x y : D) : Noex (cmpD f x y) := fun e h => by unfold cmpD at h; split at h <;> cases h
theorem cmpD_ok (f : Int → Int → Bool) : Op2B K os (L2.rI0 fun i j => .bl (f i j)) (cmpD f) := by
  intro g ρ σ H F x y dx dy b Q hR vx vy e q
  unfold cmpD at e
  split at e
  · rename_i i j
    cases e
    exact ⟨i, j, vx, vy, q H F hR FLe.refl⟩
  · cases e
def toP : D → Option PyData
  | .non => some .none
  | .bl b => some (.bool b)
  | .int i => some (.int i)
  | .str x => some (.str x)
  | .lst xs => (toPs xs).map .list
  | .tup xs => (toPs xs).map .tuple
  | _ => none
where toPs : List D → Option (List PyData)
  | [] => some []
  | d :: ds => match toP d, toPs ds with
    | some p, some ps => some (p :: ps)
    | _, _ => none
abbrev toPs := toP.toPs
mutual
theorem dp_of {F H : Hp} (s : ∀ a u, F a = some u → Rd' H a u) : ∀ (d : D) (v : V) (p : PyData), toP d = some p → Rep K F d v → Dp K H v p
  | .non, v, p, e, h => by
    cases e; cases (show v = .non from h); exact .non
  | .bl b, v, p, e, h => by
    cases e; cases (show v = .bl b from h); exact .bl b
  | .int i, v, p, e, h => by
    cases e; cases (show v = .int i from h); exact .int i
  | .str x, v, p, e, h => by
    cases e; cases (show v = .str x from h); exact .str x
  | .lst xs, v, p, e, h => by
    obtain ⟨ps, e1, e2⟩ := Option.map_eq_some_iff.mp (show (toPs xs).map PyData.list = some p from e)
    subst e2
    obtain ⟨a, vs, ea, ha, ra⟩ := h
    subst ea
    exact .lst (ha.sq s) (dps_of s xs vs ps e1 ra)
  | .tup xs, v, p, e, h => by
    obtain ⟨ps, e1, e2⟩ := Option.map_eq_some_iff.mp (show (toPs xs).map PyData.tuple = some p from e)
    subst e2
    obtain ⟨a, vs, ea, ha, ra⟩ := h
    subst ea
    exact .tup (ha.sq s) (dps_of s xs vs ps e1 ra)
  | .dic _ _, v, p, e, h => by cases e
  | .set _, v, p, e, h => by cases e
theorem dps_of {F H : Hp} (s : ∀ a u, F a = some u → Rd' H a u) : ∀ (ds : List D) (vs : List V) (ps : List PyData), toPs ds = some ps → Reps K F ds vs → DpAll K H vs ps
  | [], vs, ps, e, h => by
    cases e
    cases (show vs = [] from h)
    exact .nil
  | d :: ds, vs, ps, e, h => by
    obtain ⟨v, r, ev, h1, h2⟩ := h
    subst ev
    have e' : (match toP d, toPs ds with
      | some p, some ps => some (p :: ps)
      | _, _ => none) = some ps := e
    cases q1 : toP d with
    | none => rw [q1] at e'; cases e'
    | some p =>
      cases q2 : toPs ds with
      | none => rw [q1, q2] at e'; cases e'
      | some ps' =>
        rw [q1, q2] at e'
        cases e'
        exact .cons (dp_of s d v p q1 h1) (dps_of s ds r ps' q2 h2)
end
theorem dp_view {F H : Hp} (s : ∀ a u, F a = some u → Rd' H a u) {d : D} {v : V} {p : PyData} (e : toP d = some p) (h : View K F H d v) : Dp K H v p := by
  cases d with
  | lst xs =>
    obtain ⟨ps, e1, e2⟩ := Option.map_eq_some_iff.mp (show (toPs xs).map PyData.list = some p from e)
    subst e2
    obtain ⟨a, vs, ea, ha, ra⟩ := h
    subst ea
    exact .lst ha (dps_of s xs vs ps e1 ra)
  | tup xs =>
    obtain ⟨ps, e1, e2⟩ := Option.map_eq_some_iff.mp (show (toPs xs).map PyData.tuple = some p from e)
    subst e2
    obtain ⟨a, vs, ea, ha, ra⟩ := h
    subst ea
    exact .tup ha (dps_of s xs vs ps e1 ra)
  | dic _ _ => cases e
  | set _ => cases e
  | non => exact dp_of s _ _ _ e h
  | bl _ => exact dp_of s _ _ _ e h
  | int _ => exact dp_of s _ _ _ e h
  | str _ => exact dp_of s _ _ _ e h
def eqD (x y : D) : Res Bool := match toP x, toP y with
  | some p, some q => if SeqAt.shaped p = true ∧ SeqAt.shaped q = true then .ok (PyData.eqv p q) else .bad
  | _, _ => .bad
def neD (x y : D) : Res Bool := match eqD x y with
  | .ok b => .ok (!b)
  | r => r
theorem eqD_nx (x y : D) : Noex (eqD x y) := fun e h => by
  unfold eqD at h
  split at h
  · split at h <;> cases h
  · cases h
theorem neD_nx (x y : D) : Noex (neD x y) := fun e h => by
  unfold neD at h
  split at h
  · cases h
  · exact eqD_nx x y e h
theorem eqD_spec {x y : D} {b : Bool} (h : eqD x y = .ok b) : ∃ p q, toP x = some p ∧ toP y = some q ∧ SeqAt.shaped p = true ∧ SeqAt.shaped q = true ∧ b = PyData.eqv p q := by
  unfold eqD at h
  split at h
  · rename_i p q e1 e2
    split at h
    · rename_i hs
      cases h
      exact ⟨p, q, e1, e2, hs.1, hs.2, rfl⟩
    · cases h
  · cases h
theorem eqD_ok : Op2B K os (rEqD K) eqD := by
  intro g ρ σ H F x y dx dy b Q hR vx vy e q
  obtain ⟨p, p', e1, e2, s1, s2, rfl⟩ := eqD_spec e
  exact ⟨p, p', dp_view hR.sub e1 vx, dp_view hR.sub e2 vy, s1, s2, q H F hR FLe.refl⟩
theorem neD_ok : Op2B K os (rNeD K) neD := by
  intro g ρ σ H F x y dx dy b Q hR vx vy e q
  unfold neD at e
  split at e
  · rename_i b' eb
    cases e
    obtain ⟨p, p', e1, e2, s1, s2, rfl⟩ := eqD_spec eb
    exact ⟨p, p', dp_view hR.sub e1 vx, dp_view hR.sub e2 vy, s1, s2, q H F hR FLe.refl⟩
  · rename_i r hr
    exact absurd e (hr b)
/-- is None, True, False -/
def isC : D → D → Res Bool
  | .non, .non => .ok true
  | _, .non => .ok false
  | .bl b, .bl c => .ok (b == c)
  | _, .bl _ => .ok false
  | _, _ => .bad
def isNotC (x y : D) : Res Bool := match isC x y with
  | .ok b => .ok (!b)
  | r => r
theorem isC_nx (x y : D) : Noex (isC x y) := fun e h => by cases y <;> cases x <;> cases h
theorem isNotC_nx (x y : D) : Noex (isNotC x y) := fun e h => by
  unfold isNotC at h
  split at h
  · cases h
  · exact isC_nx x y e h
end
def rIsC : R2 := fun x y H Q => ((y = .non) ∨ ∃ b, y = .bl b) ∧ (∀ n, x ≠ .ty n) ∧ Q (.bl (decide (x = y))) H
def rIsNotC : R2 := fun x y H Q => ((y = .non) ∨ ∃ b, y = .bl b) ∧ (∀ n, x ≠ .ty n) ∧ Q (.bl (!decide (x = y))) H
section
variable {X : Cx}
theorem isC_val {x y : V} {v u : Value} (hy : (y = .non) ∨ ∃ b, y = .bl b) (hx : ∀ n, x ≠ .ty n) (rx : RelV x v) (ry : RelV y u) : plainIs v u = true ∧ (v == u) = decide (x = y) := by
  rcases hy with rfl | ⟨b, rfl⟩
  · cases (show u = Value.none from ry)
    cases x with
    | non => cases (show v = Value.none from rx); exact ⟨rfl, rfl⟩
    | bl c => cases (show v = Value.bool c from rx); exact ⟨rfl, rfl⟩
    | int i => obtain ⟨t, rfl⟩ := (show ∃ t, v = Value.int i t from rx); exact ⟨rfl, rfl⟩
    | str i => obtain ⟨t, rfl⟩ := (show ∃ t, v = Value.str i t from rx); exact ⟨rfl, rfl⟩
    | byt i => obtain ⟨t, rfl⟩ := (show ∃ t, v = Value.bytes i t from rx); exact ⟨rfl, rfl⟩
    | flt i => obtain ⟨t, rfl⟩ := (show ∃ t, v = Value.float i t from rx); exact ⟨rfl, rfl⟩
    | ref i => cases (show v = Value.ref i from rx); exact ⟨rfl, rfl⟩
    | ty n => exact absurd rfl (hx n)
  · cases (show u = Value.bool b from ry)
    cases x with
    | non => cases (show v = Value.none from rx); exact ⟨rfl, rfl⟩
    | bl c =>
      cases (show v = Value.bool c from rx)
      refine ⟨rfl, ?_⟩
      cases b <;> cases c <;> rfl
    | int i => obtain ⟨t, rfl⟩ := (show ∃ t, v = Value.int i t from rx); exact ⟨rfl, rfl⟩
    | str i => obtain ⟨t, rfl⟩ := (show ∃ t, v = Value.str i t from rx); exact ⟨rfl, rfl⟩
    | byt i => obtain ⟨t, rfl⟩ := (show ∃ t, v = Value.bytes i t from rx); exact ⟨rfl, rfl⟩
    | flt i => obtain ⟨t, rfl⟩ := (show ∃ t, v = Value.float i t from rx); exact ⟨rfl, rfl⟩
    | ref i => cases (show v = Value.ref i from rx); exact ⟨rfl, rfl⟩
    | ty n => exact absurd rfl (hx n)
theorem op_isC : OpR X (compareOp .Is) rIsC := by
  intro pins s σ H x y v u Q I rx ry ⟨hy, hx, q⟩
  obtain ⟨h1, h2⟩ := isC_val hy hx rx ry
  exact wpAny_is_plain h1 ⟨.bl _, H, I, by rw [h2]; rfl, q⟩
theorem op_isNotC : OpR X (compareOp .IsNot) rIsNotC := by
  intro pins s σ H x y v u Q I rx ry ⟨hy, hx, q⟩
  obtain ⟨h1, h2⟩ := isC_val hy hx rx ry
  exact wpAny_isNot_plain h1 ⟨.bl _, H, I, by rw [h2]; rfl, q⟩
end
section
variable {K : Frag} {os : List Bool}
theorem view_no_ty {F H : Hp} {d : D} {v : V} (h : View K F H d v) : ∀ n, v ≠ .ty n := fun n z => by
  subst z
  cases d with
  | non => cases h
  | bl _ => cases h
  | int _ => cases h
  | str _ => cases h
  | lst _ => obtain ⟨a, vs, e, _⟩ := h; cases e
  | tup _ => obtain ⟨a, vs, e, _⟩ := h; cases e
  | dic _ _ => obtain ⟨a, e, _⟩ := h; cases e
  | set _ => exact h.elim
theorem isC_dec {F H : Hp} {dx dy : D} {x y : V} {b : Bool} (vx : View K F H dx x) (vy : View K F H dy y) (e : isC dx dy = .ok b) : ((y = .non) ∨ ∃ b, y = .bl b) ∧ decide (x = y) = b := by
  have nr : ∀ {a : Addr} {y : V}, (y = .non ∨ ∃ b, y = .bl b) → decide (V.ref a = y) = false := fun {a y} h => by
    rcases h with rfl | ⟨b, rfl⟩ <;> rfl
  cases dy with
  | non =>
    cases (show y = .non from vy)
    refine ⟨.inl rfl, ?_⟩
    cases dx with
    | non => cases (show x = .non from vx); cases e; rfl
    | bl c => cases (show x = .bl c from vx); cases e; rfl
    | int c => cases (show x = .int c from vx); cases e; rfl
    | str c => cases (show x = .str c from vx); cases e; rfl
    | lst _ => obtain ⟨a, vs, e1, _⟩ := vx; subst e1; cases e; rfl
    | tup _ => obtain ⟨a, vs, e1, _⟩ := vx; subst e1; cases e; rfl
    | dic _ _ => obtain ⟨a, e1, _⟩ := vx; subst e1; cases e; rfl
    | set _ => exact (show False from vx).elim
  | bl c0 =>
    cases (show y = .bl c0 from vy)
    refine ⟨.inr ⟨c0, rfl⟩, ?_⟩
    cases dx with
    | non => cases (show x = .non from vx); cases e; rfl
    | bl c =>
      cases (show x = .bl c from vx)
      cases e
      cases c <;> cases c0 <;> rfl
    | int c => cases (show x = .int c from vx); cases e; rfl
    | str c => cases (show x = .str c from vx); cases e; rfl
    | lst _ => obtain ⟨a, vs, e1, _⟩ := vx; subst e1; cases e; rfl
    | tup _ => obtain ⟨a, vs, e1, _⟩ := vx; subst e1; cases e; rfl
    | dic _ _ => obtain ⟨a, e1, _⟩ := vx; subst e1; cases e; rfl
    | set _ => exact (show False from vx).elim
  | _ => cases dx <;> cases e
theorem isC_ok : Op2B K os rIsC isC := by
  intro g ρ σ H F x y dx dy b Q hR vx vy e q
  obtain ⟨h1, h2⟩ := isC_dec vx vy e
  refine ⟨h1, view_no_ty vx, ?_⟩
  rw [h2]
  exact q H F hR FLe.refl
theorem isNotC_ok : Op2B K os rIsNotC isNotC := by
  intro g ρ σ H F x y dx dy b Q hR vx vy e q
  unfold isNotC at e
  split at e
  · rename_i b' eb
    cases e
    obtain ⟨h1, h2⟩ := isC_dec vx vy eb
    refine ⟨h1, view_no_ty vx, ?_⟩
    rw [h2]
    exact q H F hR FLe.refl
  · rename_i r hr
    exact absurd e (hr b)
end
end DL
/-! DL7: comprehensions. -/
namespace DL
open PySem PySem.Spec L2
set_option autoImplicit false
/-- the slots that own something, with their objects -/
def ownPins (os : List Bool) (ρ : Ev) (σ : L2.St) : List (Nat × Addr) := (List.range ρ.length).filterMap fun i => match os[i]?, ρ[i]?, σ[i]? with
  | some true, some (some _), some (some (V.ref a)) => some (i, a)
  | _, _, _ => none
theorem mem_ownPins {os : List Bool} {ρ : Ev} {σ : L2.St} {i : Nat} {a : Addr} : (i, a) ∈ ownPins os ρ σ ↔ os[i]? = some true ∧ (∃ d, ρ[i]? = some (some d)) ∧ σ[i]? = some (some (.ref a)) := by
  unfold ownPins
  rw [List.mem_filterMap]
  constructor
  · rintro ⟨j, hj, h⟩
    split at h
    · rename_i d b h1 h2 h3
      cases h
      exact ⟨h1, ⟨d, h2⟩, h3⟩
    · cases h
  · rintro ⟨h1, ⟨d, h2⟩, h3⟩
    refine ⟨i, List.mem_range.mpr (List.getElem?_eq_some_iff.mp h2).1, ?_⟩
    rw [h1, h2, h3]
def Gh.at (g : Gh) (os : List Bool) (ρ : Ev) (σ : L2.St) (H F : Hp) : Gh := ⟨H, F, ownPins os ρ σ, g.lk, []⟩
section
variable {K : Frag} {g : Gh} {os : List Bool} {ρ ρ' : Ev} {σ : L2.St} {H F H' F' : Hp}
theorem R.rebase (r : R K g os ρ σ H F) : R K (g.at os ρ σ H F) os ρ σ H F where
  len := r.len
  leno := r.leno
  sub := r.sub
  fz := r.fz
  ow := fun i d h1 h2 => by
    obtain ⟨a, e1, e2, e3, _⟩ := r.ow i d h1 h2
    exact ⟨a, e1, e2, e3, .inl ⟨i, mem_ownPins.mpr ⟨h1, ⟨d, h2⟩, e1⟩⟩⟩
  dj := r.dj
  frame := fun b o e _ => .inl e
  f0 := FLe.refl
  fresh := fun b u e => .inl e
  fr := fun b od u _ h => .inr h
  pin := fun i a hm => mem_ownPins.mp hm
  lock := r.lock
  kt := fun _ _ hm => nomatch hm
theorem R.unbase (r : R K g os ρ σ H F) (k : R K (g.at os ρ σ H F) os ρ' σ H' F') : R K g os ρ' σ H' F' where
  len := k.len
  leno := k.leno
  sub := k.sub
  fz := k.fz
  ow := fun i d h1 h2 => by
    obtain ⟨a, e1, e2, e3, e4⟩ := k.ow i d h1 h2
    refine ⟨a, e1, e2, e3, ?_⟩
    rcases e4 with ⟨j, hj⟩ | hn
    · obtain ⟨q1, ⟨d', q2⟩, q3⟩ := mem_ownPins.mp hj
      obtain ⟨a', p1, _, _, p4⟩ := r.ow j d' q1 q2
      rw [q3] at p1; cases p1
      exact p4
    · exact .inr (r.h0_none hn)
  dj := k.dj
  frame := fun b o e hp => by
    rcases r.frame b o e hp with z | z
    · refine (k.frame b o z fun j hj => ?_)
      obtain ⟨q1, ⟨d', q2⟩, q3⟩ := mem_ownPins.mp hj
      obtain ⟨a', p1, _, _, p4⟩ := r.ow j d' q1 q2
      rw [q3] at p1; cases p1
      rcases p4 with ⟨j', hj'⟩ | hn
      · exact hp j' hj'
      · rw [e] at hn; cases hn
    · exact .inr z
  f0 := r.f0.trans k.f0
  fresh := fun b u e => by
    rcases k.fresh b u e with z | z | ⟨xs, z1, z2⟩
    · exact r.fresh b u z
    · exact .inr (.inl (r.h0_none z))
    · exact r.fresh_tup z1 z2
  fr := fun b od u h1 h2 => by
    rcases k.fr b od u h1 h2 with z | z
    · exact .inl z
    · rcases k.fresh b u h1 with y | y | ⟨xs, y1, y2⟩
      · exact r.fr b od u y z
      · have z' : H b = some (.frz od u) := z
        have y' : H b = none := y
        rw [z'] at y'; cases y'
      · have z' : H b = some (.frz od u) := z
        have y' : H b = some (.tup xs) := y2
        rw [z'] at y'; cases y'
  pin := fun i a hm => by
    obtain ⟨q1, q2, q3⟩ := r.pin i a hm
    exact k.pin i a (mem_ownPins.mpr ⟨q1, q2, q3⟩)
  lock := k.lock
  kt := fun i b hm hs => by
    obtain ⟨xs, e⟩ := r.kt i b hm hs
    rcases k.frame b _ e (fun j hj => by
      obtain ⟨q1, ⟨d', q2⟩, q3⟩ := mem_ownPins.mp hj
      obtain ⟨a', p1, _, p3, _⟩ := r.ow j d' q1 q2
      rw [q3] at p1; cases p1
      obtain ⟨o', e4, mo⟩ := p3.there
      rw [e] at e4; cases e4
      exact mo.elim) with z | ⟨od, z⟩
    · exact ⟨xs, z⟩
    · have z' : (b, od, HO.tup xs) ∈ g.lk := z
      have := (r.lock b od _ z').1
      rw [e] at this; cases this
/-- an object that is no slot's is kept -/
theorem R.keeps (r : R K g os ρ σ H F) (k : R K (g.at os ρ σ H F) os ρ' σ H' F') {a : Addr} {o : HO} (h : H a = some o) (mu : Mut (some o)) (hs : ∀ (i : Nat) (d : D), os[i]? = some true → ρ[i]? = some (some d) → σ[i]? ≠ some (some (.ref a))) : H' a = some o := by
  rcases k.frame a o h fun j hj => (by
    obtain ⟨q1, ⟨d', q2⟩, q3⟩ := mem_ownPins.mp hj
    exact hs j d' q1 q2 q3) with z | ⟨od, z⟩
  · exact z
  · have z' : (a, od, o) ∈ g.lk := z
    have := (r.lock a od o z').1
    rw [h] at this; cases this
theorem R.keepsF (r : R K g os ρ σ H F) (k : R K (g.at os ρ σ H F) os ρ' σ H' F') {a : Addr} {o : HO} (h : H a = some o) (mu : Mut (some o)) (hf : F a = none) : F' a = none := by
  cases z : F' a with
  | none => rfl
  | some u =>
    rcases k.fresh a u z with y | y | ⟨xs, y1, y2⟩
    · have y' : F a = some u := y
      rw [hf] at y'; cases y'
    · have y' : H a = none := y
      rw [h] at y'; cases y'
    · have y' : H a = some (.tup xs) := y2
      rw [h] at y'; cases y'
      exact mu.elim
def wipeE (ρ : Ev) : List Nat → Ev
  | [] => ρ
  | v :: vs => (wipeE ρ vs).set v none
def restE (ρ0 : Ev) : List Nat → Ev → Ev
  | [], ρ => ρ
  | v :: vs, ρ => (restE ρ0 vs ρ).set v (match ρ0[v]? with
    | some x => x
    | none => none)
theorem wipeE_len : ∀ {vs : List Nat}, (wipeE ρ vs).length = ρ.length
  | [] => rfl
  | v :: vs => by unfold wipeE; rw [List.length_set, wipeE_len]
theorem restE_len {ρ0 : Ev} : ∀ {vs : List Nat}, (restE ρ0 vs ρ).length = ρ.length
  | [] => rfl
  | v :: vs => by unfold restE; rw [List.length_set, restE_len]
theorem wipeE_out : ∀ {vs : List Nat} {i : Nat}, i ∉ vs → (wipeE ρ vs)[i]? = ρ[i]?
  | [], i, _ => rfl
  | v :: vs, i, h => by
    unfold wipeE
    rw [List.getElem?_set_ne (fun z => h (by rw [z]; exact List.mem_cons_self)), wipeE_out (fun z => h (List.mem_cons_of_mem _ z))]
theorem wipeE_in : ∀ {vs : List Nat} {i : Nat} {d : D}, i ∈ vs → (wipeE ρ vs)[i]? ≠ some (some d)
  | v :: vs, i, d, h => by
    unfold wipeE
    by_cases e : v = i
    · subst e
      rw [get_set, if_pos rfl]
      split <;> intro z <;> cases z
    · rw [List.getElem?_set_ne e]
      rcases List.mem_cons.mp h with z | z
      · exact absurd z.symm e
      · exact wipeE_in z
theorem wipe_set_out : ∀ {vs : List Nat} {i : Nat}, i ∉ vs → (wipe σ vs)[i]? = σ[i]? := fun {vs i} h => wipe_out h
theorem restE_out {ρ0 : Ev} : ∀ {vs : List Nat} {i : Nat}, i ∉ vs → (restE ρ0 vs ρ)[i]? = ρ[i]?
  | [], i, _ => rfl
  | v :: vs, i, h => by
    unfold restE
    rw [List.getElem?_set_ne (fun z => h (by rw [z]; exact List.mem_cons_self)), restE_out (fun z => h (List.mem_cons_of_mem _ z))]
theorem restE_in {ρ0 : Ev} : ∀ {vs : List Nat} {i : Nat} {d : D}, i ∈ vs → (restE ρ0 vs ρ)[i]? = some (some d) → ρ0[i]? = some (some d)
  | v :: vs, i, d, h, k => by
    unfold restE at k
    by_cases e : v = i
    · subst e
      rw [get_set, if_pos rfl] at k
      split at k
      · split at k
        · rename_i x hx
          rw [hx, ← Option.some.inj k]
        · cases k
      · cases k
    · rw [List.getElem?_set_ne e] at k
      rcases List.mem_cons.mp h with z | z
      · exact absurd z.symm e
      · exact restE_in z k
/-- some slots forgotten -/
theorem R.wipe (r : R K g os ρ σ H F) {vs : List Nat} (hv : ∀ v ∈ vs, os[v]? = some false) : R K g os (wipeE ρ vs) (L2.wipe σ vs) H F := by
  have out : ∀ {i : Nat} {d : D}, (wipeE ρ vs)[i]? = some (some d) → i ∉ vs ∧ ρ[i]? = some (some d) := fun {i d} h => by
    have hi : i ∉ vs := fun z => wipeE_in z h
    exact ⟨hi, by rwa [wipeE_out hi] at h⟩
  refine ⟨by rw [wipe_length, wipeE_len]; exact r.len, by rw [wipeE_len]; exact r.leno, r.sub, fun i d h1 h2 => ?_, fun i d h1 h2 => ?_, fun i j d e a hne h1 h2 h3 h4 h5 h6 => ?_, r.frame, r.f0, r.fresh, r.fr, fun i a hm => ?_, r.lock, fun i b hm hs => ?_⟩
  · obtain ⟨hi, h3⟩ := out h2
    rw [wipe_set_out hi]
    exact r.fz i d h1 h3
  · obtain ⟨hi, h3⟩ := out h2
    rw [wipe_set_out hi]
    exact r.ow i d h1 h3
  · obtain ⟨hi, h7⟩ := out h3
    obtain ⟨hj, h8⟩ := out h4
    rw [wipe_set_out hi] at h5
    rw [wipe_set_out hj] at h6
    exact r.dj i j d e a hne h1 h2 h7 h8 h5 h6
  · obtain ⟨q1, q2, q3⟩ := r.pin i a hm
    have hi : i ∉ vs := fun z => by rw [hv i z] at q1; cases q1
    rw [wipe_set_out hi, wipeE_out hi]
    exact ⟨q1, q2, q3⟩
  · exact r.kt i b hm (wipe_some hs).1
/-- an object that is nobody's is changed -/
theorem R.touch (r : R K g os ρ σ H F) {a : Addr} {o o' : HO} (hf : F a = none) (h0 : g.H0 a = none) (h : H a = some o') (mu : Mut (some o')) (hs : ∀ (i : Nat) (d : D), os[i]? = some true → ρ[i]? = some (some d) → σ[i]? ≠ some (some (.ref a))) : R K g os ρ σ (upd H a o) F where
  len := r.len
  leno := r.leno
  sub := fun b u e => by
    have ne : b ≠ a := ne_of_none e hf
    exact (r.sub b u e).imp (fun z => by rw [upd_ne ne]; exact z) fun ⟨m, ob, z⟩ => ⟨m, ob, by rw [upd_ne ne]; exact z⟩
  fz := r.fz
  ow := fun i d h1 h2 => by
    obtain ⟨b, e1, e2, e3, e4⟩ := r.ow i d h1 h2
    have ne : b ≠ a := fun z => by subst z; exact hs i d h1 h2 e1
    exact ⟨b, e1, e2, e3.heap (upd_ne ne), e4⟩
  dj := r.dj
  frame := fun b u e hp => by
    have ne : b ≠ a := ne_of_none e h0
    exact (r.frame b u e hp).imp (fun z => by rw [upd_ne ne]; exact z) id
  f0 := r.f0
  fresh := r.fresh
  fr := fun b od u h1 h2 => by
    have ne : b ≠ a := ne_of_none h1 hf
    rw [upd_ne ne] at h2
    exact r.fr b od u h1 h2
  pin := r.pin
  lock := fun d od u hm => by
    obtain ⟨k1, k2⟩ := r.lock d od u hm
    exact ⟨by rw [upd_ne (ne_of_none k2 hf)]; exact k1, k2⟩
  kt := fun i b hm hsb => by
    obtain ⟨xs, e⟩ := r.kt i b hm hsb
    have ne : b ≠ a := fun z => by
      subst z
      rw [h] at e; cases e
      exact mu.elim
    exact ⟨xs, by rw [upd_ne ne]; exact e⟩
/-- .. and known again -/
theorem R.restore {ρ0 : Ev} {H0 F0 : Hp} (r0 : R K g os ρ0 σ H0 F0) {vs : List Nat} (r : R K g os ρ (L2.wipe σ vs) H F) (le : FLe F0 F) (hv : ∀ v ∈ vs, os[v]? = some false) (hk : g.kt = []) : R K g os (restE ρ0 vs ρ) σ H F := by
  have out : ∀ {i : Nat}, i ∉ vs → (restE ρ0 vs ρ)[i]? = ρ[i]? := fun h => restE_out h
  have ownOut : ∀ {i : Nat}, os[i]? = some true → i ∉ vs := fun h z => by rw [hv _ z] at h; cases h
  refine ⟨?_, by rw [restE_len]; exact r.leno, r.sub, fun i d h1 h2 => ?_, fun i d h1 h2 => ?_, fun i j d e a hne h1 h2 h3 h4 h5 h6 => ?_, r.frame, r.f0, r.fresh, r.fr, fun i a hm => ?_, r.lock, fun i b hm hs => ?_⟩
  · rw [restE_len, ← r.len, wipe_length]
  · by_cases hi : i ∈ vs
    · obtain ⟨v, e1, e2⟩ := r0.fz i d h1 (restE_in hi h2)
      exact ⟨v, e1, Rep.mono le _ _ e2⟩
    · rw [out hi] at h2
      obtain ⟨v, e1, e2⟩ := r.fz i d h1 h2
      rw [wipe_set_out hi] at e1
      exact ⟨v, e1, e2⟩
  · have hi := ownOut h1
    rw [out hi] at h2
    have := r.ow i d h1 h2
    rwa [wipe_set_out hi] at this
  · have hi := ownOut h1
    have hj := ownOut h2
    rw [out hi] at h3
    rw [out hj] at h4
    exact r.dj i j d e a hne h1 h2 h3 h4 (by rw [wipe_set_out hi]; exact h5) (by rw [wipe_set_out hj]; exact h6)
  · obtain ⟨q1, q2, q3⟩ := r.pin i a hm
    have hi := ownOut q1
    rw [wipe_set_out hi] at q3
    rw [out hi]
    exact ⟨q1, q2, q3⟩
  · rw [hk] at hm; cases hm
end
def compM (vs : List Nat) (t : Tgt) (c : EM Bool) (e : EM D) : List D → Ev → List D → Res (List D × Ev)
  | [], ρ, acc => .ok (acc, ρ)
  | d :: ds, ρ, acc => match t d ρ with
    | .ok ρ1 => (match c ρ1 with
      | .ok (true, ρ2) => (match e ρ2 with
        | .ok (v, ρ3) => if acc.length < sizeLine then compM vs t c e ds (wipeE ρ3 vs) (acc ++ [v]) else .bad
        | _ => .bad)
      | .ok (false, ρ2) => compM vs t c e ds (wipeE ρ2 vs) acc
      | _ => .bad)
    | _ => .bad
def eComp (vs : List Nat) (f : EM (List D)) (t : Tgt) (c : EM Bool) (e : EM D) : EM D := fun ρ => match f ρ with
  | .ok (ds, ρ1) => (match compM vs t c e ds (wipeE ρ1 vs) [] with
    | .ok (acc, ρ2) => .ok (.lst acc, restE ρ1 vs ρ2)
    | _ => .bad)
  | _ => .bad
def eYes : EM Bool := eRet true
theorem wipe_congr {σ σ' : L2.St} (hl : σ'.length = σ.length) {vs : List Nat} (h : ∀ i, i ∉ vs → σ'[i]? = σ[i]?) : L2.wipe σ' vs = L2.wipe σ vs := by
  apply List.ext_getElem?
  intro i
  by_cases hi : i ∈ vs
  · have key : ∀ {τ : L2.St} {ws : List Nat}, i ∈ ws → (L2.wipe τ ws)[i]? = if i < τ.length then some none else none := by
      intro τ ws
      induction ws with
      | nil => intro z; cases z
      | cons w ws ih =>
        intro z
        unfold L2.wipe
        rw [get_set]
        by_cases e : w = i
        · rw [if_pos e, wipe_length, e]
        · rw [if_neg e]
          rcases List.mem_cons.mp z with y | y
          · exact absurd y.symm e
          · exact ih y
    rw [key hi, key hi, hl]
  · rw [wipe_out hi, wipe_out hi, h i hi]
/-- a comprehension's target -/
structure RawT (K : Frag) (os : List Bool) (vs : List Nat) (gt : TG) (t : Tgt) : Prop where
  go : ∀ (g : Gh) (ρ ρ' : Ev) (F H : Hp) (d : D) (v : V) (σ : L2.St) (Q : L2.St → Hp → Prop), g.kt = [] → R K g os ρ σ H F → Rep K F d v → t d ρ = .ok ρ' →
    (∀ σ', (∀ i, i ∉ vs → σ'[i]? = σ[i]?) → σ'.length = σ.length → (∀ i, i ∉ vs → ρ'[i]? = ρ[i]?) → R K g os ρ' σ' H F → Q σ' H) → gt v σ H Q
structure RawTs (K : Frag) (os : List Bool) (vs : List Nat) (gt : TGs) (t : Tgts) : Prop where
  go : ∀ (g : Gh) (ρ ρ' : Ev) (F H : Hp) (ds : List D) (us : List V) (σ : L2.St) (Q : L2.St → Hp → Prop), g.kt = [] → R K g os ρ σ H F → Reps K F ds us → t ds ρ = .ok ρ' →
    (∀ σ', (∀ i, i ∉ vs → σ'[i]? = σ[i]?) → σ'.length = σ.length → (∀ i, i ∉ vs → ρ'[i]? = ρ[i]?) → R K g os ρ' σ' H F → Q σ' H) → gt us σ H Q
section
variable {K : Frag} {os : List Bool} {vs : List Nat}
theorem raw_name {i : Nat} (hi : i ∈ vs) (ho : os[i]? = some false) : RawT K os vs (gName i) (gSet i) := ⟨fun g ρ ρ' F H d v σ Q hk hR hv e q => by
  cases e
  have np : ∀ a, (i, a) ∉ g.pn := fun a z => by
    have := (hR.pin i a z).1
    rw [ho] at this; cases this
  have r2 := hR.put (d := d) (v := v) np (fun z => by rw [hk] at z; cases z) hv
  have eo : os.set i false = os := by
    apply List.ext_getElem?
    intro j
    rw [get_set]
    by_cases hj : i = j
    · subst hj
      rw [if_pos rfl, if_pos (List.getElem?_eq_some_iff.mp ho).1, ho]
    · rw [if_neg hj]
  rw [eo] at r2
  exact q _ (fun j hj => List.getElem?_set_ne (fun z => hj (by rw [← z]; exact hi))) (List.length_set ..) (fun j hj => List.getElem?_set_ne (fun z => hj (by rw [← z]; exact hi))) r2⟩
theorem raws_nil : RawTs K os vs gNil gsNil := ⟨fun g ρ ρ' F H ds us σ Q hk hR hv e q => by
  unfold gsNil at e
  split at e
  · cases e
    exact ⟨hv, q σ (fun _ _ => rfl) rfl (fun _ _ => rfl) hR⟩
  · cases e⟩
theorem raws_cons {gt : TG} {t : Tgt} {gts : TGs} {ts : Tgts} (h1 : RawT K os vs gt t) (h2 : RawTs K os vs gts ts) : RawTs K os vs (gCons gt gts) (gsCons t ts) := ⟨fun g ρ ρ' F H ds us σ Q hk hR hv e q => by
  cases ds with
  | nil => cases e
  | cons d ds =>
    obtain ⟨v, rr, e1, h3, h4⟩ := hv
    subst e1
    have e' : (match t d ρ with
      | .ok ρ' => ts ds ρ'
      | _ => .bad) = .ok ρ' := e
    cases q1 : t d ρ with
    | ok ρ1 =>
      rw [q1] at e'
      refine ⟨v, rr, rfl, h1.go g ρ ρ1 F H d v σ _ hk hR h3 q1 fun σ1 a1 l1 b1 r1 => ?_⟩
      refine h2.go g ρ1 ρ' F H ds rr σ1 Q hk r1 h4 e' fun σ2 a2 l2 b2 r2 => ?_
      exact q σ2 (fun i hi => (a2 i hi).trans (a1 i hi)) (l2.trans l1) (fun i hi => (b2 i hi).trans (b1 i hi)) r2
    | exc x => rw [q1] at e'; cases e'
    | bad => rw [q1] at e'; cases e'⟩
theorem raw_tup {n : Nat} {gts : TGs} {ts : Tgts} (h : RawTs K os vs gts ts) : RawT K os vs (L2.gTup K n gts) (gTupT n ts) := ⟨fun g ρ ρ' F H d v σ Q hk hR hv e q => by
  cases d with
  | tup ds =>
    obtain ⟨a, us, ea, ht, hr⟩ := hv
    have e' : (if ds.length = n then ts ds ρ else .bad) = .ok ρ' := e
    split at e'
    · rename_i hl
      exact ⟨a, us, ea, ht.sq hR.sub, by rw [hr.length]; exact hl, h.go g ρ ρ' F H ds us σ Q hk hR hr e' q⟩
    · cases e'
  | _ => cases e⟩
end
section
variable {K : Frag} {E : XK} {os : List Bool} {vs : List Nat} {t : Tgt} {f : EM (List D)} {c : EM Bool} {e : EM D}
theorem own_free {g : Gh} {ρ ρ' : Ev} {σ : L2.St} {H F H' F' : Hp} {a : Addr} (hn : ∀ (j : Nat) (d : D), os[j]? = some true → ρ[j]? = some (some d) → σ[j]? ≠ some (some (.ref a))) (hH : ∃ o, H a = some o) (k : R K (g.at os ρ σ H F) os ρ' σ H' F') :
    ∀ (j : Nat) (d : D), os[j]? = some true → ρ'[j]? = some (some d) → σ[j]? ≠ some (some (.ref a)) := fun j d h1 h2 h3 => by
  obtain ⟨b, e1, _, _, e4⟩ := k.ow j d h1 h2
  rw [h3] at e1; cases e1
  rcases e4 with ⟨j', hj⟩ | hz
  · obtain ⟨q1, ⟨d', q2⟩, q3⟩ := mem_ownPins.mp hj
    exact hn j' d' q1 q2 q3
  · have hz' : H a = none := hz
    obtain ⟨o, ho⟩ := hH
    rw [ho] at hz'; cases hz'
/-- a comprehension is read -/
theorem comp_read {gt : TG} (hv : ∀ v ∈ vs, os[v]? = some false) (hg : RawT K os vs gt t) {σ : L2.St} {H : Hp} {Q : VK} (h : sO K E os (eComp vs f t c e) σ H Q) : tLc (sI K E os f) gt (sB K E os c) (sD K E os e) vs σ H Q := by
  obtain ⟨g, ρ, F, r, w⟩ := h
  refine ⟨g.at os ρ σ H F, ρ, F, r.rebase, ?_⟩
  unfold eComp at w
  cases q : f ρ with
  | exc x => rw [q] at w; exact w.elim
  | bad => rw [q] at w; exact w
  | ok p =>
  obtain ⟨ds, ρ1⟩ := p
  rw [q] at w
  generalize hgb : g.at os ρ σ H F = gb
  have hkt : gb.kt = [] := by rw [← hgb]; rfl
  intro J H1 F1 hR1 le1 hJ D hD
  refine ⟨fun i m H2 => m = ds.length - i ∧ i ≤ ds.length ∧ ∃ ρ2 F2 acc va, R K gb os ρ2 (L2.wipe σ vs) H2 F2 ∧ FLe F1 F2 ∧ F2 D = none ∧ H2 D = some (.lst va) ∧ Reps K F2 acc va ∧ (∀ (j : Nat) (d : DL.D), os[j]? = some true → ρ2[j]? = some (some d) → (L2.wipe σ vs)[j]? ≠ some (some (.ref D))) ∧
    WG K E os g σ F (rO K os) Q (match compM vs t c e (ds.drop i) ρ2 acc with
      | .ok (acc, ρ2) => .ok (.lst acc, restE ρ1 vs ρ2)
      | _ => .bad), ⟨ds.length, by simp, Nat.zero_le _, wipeE ρ1 vs, F1, [], [], (hR1.laid hD).wipe hv, FLe.refl, hR1.none_of hD, upd_same, rfl, fun j d h1 h2 h3 => ?_, w⟩, ?_⟩
  · have hj : j ∉ vs := fun z => by rw [hv j z] at h1; cases h1
    rw [wipeE_out hj] at h2
    rw [wipe_set_out hj] at h3
    obtain ⟨a, p1, _, p3, _⟩ := hR1.ow j d h1 h2
    rw [h3] at p1; cases p1
    obtain ⟨o, p4, _⟩ := p3.there
    rw [hD] at p4; cases p4
  · rintro i m H2 ⟨rfl, hi, ρ2, F2, acc, va, hR2, le2, hFD, hHD, hacc, hnD, w2⟩
    have hD0 : gb.H0 D = none := hR1.h0_none hD
    obtain ⟨hJ1, hJ2⟩ := hJ os ρ2 (L2.wipe σ vs) H2 F2 i hR2 le2
    by_cases hlt : i < ds.length
    · right
      obtain ⟨go, hy⟩ := hJ1 ds[i] (List.getElem?_eq_getElem hlt)
      have hd : ds.drop i = ds[i] :: ds.drop (i + 1) := List.drop_eq_getElem_cons hlt
      rw [hd] at w2
      refine ⟨go, fun H' => ∃ ρ3 F3 acc va, R K gb os ρ3 (L2.wipe σ vs) H' F3 ∧ FLe F1 F3 ∧ F3 D = none ∧ H' D = some (.lst va) ∧ Reps K F3 acc va ∧ (∀ (j : Nat) (d : DL.D), os[j]? = some true → ρ3[j]? = some (some d) → (L2.wipe σ vs)[j]? ≠ some (some (.ref D))) ∧
        WG K E os g σ F (rO K os) Q (match compM vs t c e (ds.drop (i + 1)) ρ3 acc with
          | .ok (acc, ρ2) => .ok (.lst acc, restE ρ1 vs ρ2)
          | _ => .bad), fun H' hN => ⟨ds.length - (i + 1), by omega, rfl, hlt, hN⟩, fun x H' hyld => ?_⟩
      obtain ⟨F3, hR3, le3, hx, kp⟩ := hy x H' hyld
      have hHD3 : H' D = some (.lst va) := kp.1 _ _ hHD
      have hFD3 : F3 D = none := by
        cases z : F3 D with
        | none => rfl
        | some u =>
          rcases kp.2 D u z with y | y | ⟨xs, _, y⟩
          · rw [hFD] at y; cases y
          · rw [hHD] at y; cases y
          · rw [hHD] at y; cases y
      unfold compM at w2
      cases q1 : t ds[i] ρ2 with
      | exc x => rw [q1] at w2; exact w2.elim
      | bad => rw [q1] at w2; exact w2.elim
      | ok ρ3 =>
      rw [q1] at w2
      dsimp only at w2
      refine hg.go gb ρ2 ρ3 F3 H' ds[i] x (L2.wipe σ vs) _ hkt hR3 hx q1 fun σ1 a1 l1 b1 hR4 => ?_
      have ew : L2.wipe σ1 vs = L2.wipe σ vs := by
        refine wipe_congr (by rw [l1, wipe_length]) fun j hj => ?_
        rw [a1 j hj, wipe_out hj]
      have hn4 : ∀ (j : Nat) (d : DL.D), os[j]? = some true → ρ3[j]? = some (some d) → σ1[j]? ≠ some (some (.ref D)) := fun j d h1 h2 h3 => by
        have hj : j ∉ vs := fun z => by rw [hv j z] at h1; cases h1
        rw [b1 j hj] at h2
        rw [a1 j hj] at h3
        exact hnD j d h1 h2 h3
      refine ⟨ew, gb.at os ρ3 σ1 H' F3, ρ3, F3, hR4.rebase, ?_⟩
      cases q2 : c ρ3 with
      | exc x => rw [q2] at w2; exact w2.elim
      | bad => rw [q2] at w2; exact w2.elim
      | ok pr =>
      obtain ⟨k, ρ4⟩ := pr
      rw [q2] at w2
      intro k' H4 F4 k5 le4 ek
      have ek' : k' = k := ek
      subst ek'
      have hR5 := hR4.unbase k5
      have hHD4 := hR4.keeps k5 hHD3 trivial hn4
      have hFD4 := hR4.keepsF k5 hHD3 trivial hFD3
      have hn5 := own_free hn4 ⟨_, hHD3⟩ k5
      cases k' with
      | false =>
        rw [if_neg Bool.false_ne_true]
        refine ⟨wipeE ρ4 vs, F4, acc, va, by rw [← ew]; exact hR5.wipe hv, le2.trans (le3.trans le4), hFD4, hHD4, Reps.mono (le3.trans le4) _ _ hacc, fun j d h1 h2 h3 => ?_, w2⟩
        have hj : j ∉ vs := fun z => by rw [hv j z] at h1; cases h1
        rw [wipeE_out hj] at h2
        rw [← ew, wipe_out hj] at h3
        exact hn5 j d h1 h2 h3
      | true =>
        rw [if_pos rfl]
        refine ⟨gb.at os ρ4 σ1 H4 F4, ρ4, F4, hR5.rebase, ?_⟩
        dsimp only at w2
        cases q3 : e ρ4 with
        | exc x => rw [q3] at w2; exact w2.elim
        | bad => rw [q3] at w2; exact w2.elim
        | ok pr =>
        obtain ⟨v, ρ5⟩ := pr
        rw [q3] at w2
        intro y H5 F5 k6 le5 hyv
        have hR6 := hR5.unbase k6
        have hHD5 := hR5.keeps k6 hHD4 trivial hn5
        have hFD5 := hR5.keepsF k6 hHD4 trivial hFD4
        have hn6 := own_free hn5 ⟨_, hHD4⟩ k6
        dsimp only at w2
        by_cases hz : acc.length < sizeLine
        · rw [if_pos hz] at w2
          have hacc5 := Reps.mono (le3.trans (le4.trans le5)) _ _ hacc
          refine ⟨va, hHD5, by rw [hacc.length]; exact hz, wipeE ρ5 vs, F5, acc ++ [v], va ++ [y], ?_, le2.trans (le3.trans (le4.trans le5)), hFD5, upd_same, hacc5.append (.one hyv), fun j d h1 h2 h3 => ?_, w2⟩
          · rw [← ew]
            exact (hR6.touch hFD5 hD0 hHD5 trivial hn6).wipe hv
          · have hj : j ∉ vs := fun z => by rw [hv j z] at h1; cases h1
            rw [wipeE_out hj] at h2
            rw [← ew, wipe_out hj] at h3
            exact hn6 j d h1 h2 h3
        · rw [if_neg hz] at w2
          exact w2.elim
    · left
      have ei : i = ds.length := by omega
      subst ei
      refine ⟨hJ2 rfl, ?_⟩
      rw [List.drop_length] at w2
      have w3 : WG K E os g σ F (rO K os) Q (.ok (.lst acc, restE ρ1 vs ρ2)) := w2
      have hRf : R K gb os (restE ρ1 vs ρ2) σ H2 F2 := R.restore hR1 hR2 le2 hv hkt
      have hnf : ∀ (j : Nat) (d : DL.D), os[j]? = some true → (restE ρ1 vs ρ2)[j]? = some (some d) → σ[j]? ≠ some (some (.ref D)) := fun j d h1 h2 h3 => by
        have hj : j ∉ vs := fun z => by rw [hv j z] at h1; cases h1
        rw [restE_out hj] at h2
        exact hnD j d h1 h2 (by rw [wipe_set_out hj]; exact h3)
      subst hgb
      exact w3 (.ref D) H2 F2 (r.unbase hRf) (le1.trans le2) ⟨D, rfl, hFD, ⟨va, hHD, hacc⟩, r.h0_none hD0, hnf⟩
end
section
variable {X : Cx} {E : XK} {os : List Bool} {tg iter elt : Expr} {ifs : List Expr} {pos : Pos} {scope : Scope} {own : List (Str × Nat)} {t : Tgt} {f : EM (List D)} {c : EM Bool} {e : EM D} {gt : TG}
theorem do_lc (hc : X.calm = true) (hN : X.N.Nodup) (hi : PI X tg iter (sI X.K E os f)) (ok : BlkOk X.N X.env.scope scope own)
    (hg : ∀ (s : Shared) (H : Hp) (C : Addr) (cl : List (Str × Addr)) (fp : List Addr), PG (X.blk s H scope (compEnvC scope cl C X.env) fp) tg gt)
    (ht : ∀ (s : Shared) (H : Hp) (C : Addr) (cl : List (Str × Addr)) (fp : List Addr), PTs (X.blk s H scope (compEnvC scope cl C X.env) fp) ifs (sB X.K E os c))
    (he : ∀ (s : Shared) (H : Hp) (C : Addr) (cl : List (Str × Addr)) (fp : List Addr), PE (X.blk s H scope (compEnvC scope cl C X.env) fp) elt (sD X.K E os e))
    (hr : RawT X.K os (own.map (·.2)) gt t) (hv : ∀ v ∈ own.map (·.2), os[v]? = some false) (hs : ∀ x, foldedSetIterable iter X.env x = pure x := by intro _; rfl) :
    PE X (.ListComp elt [⟨tg, iter, ifs, 0⟩] scope pos) (sO X.K E os (eComp (own.map (·.2)) f t c e)) := PE.weak (pe_lc hc hN hi ok hg ht he hs) fun σ H Q h => comp_read hv hr h
end
end DL
/-! DL8: dicts, subscripts, stores, methods, built-ins. -/
namespace DL
open PySem PySem.Spec L2
set_option autoImplicit false
/-! ### keys -/
def kEq1 : D → D → Bool
  | .int i, .int j => decide (i = j)
  | .str x, .str y => decide (x = y)
  | _, _ => false
def kEqs : List D → List D → Bool
  | [], [] => true
  | x :: xs, y :: ys => kEq1 x y && kEqs xs ys
  | _, _ => false
def kEq : D → D → Bool
  | .tup xs, .tup ys => kEqs xs ys
  | x, y => kEq1 x y
def asKey : D → Option Key
  | .int i => some (.inl i)
  | .str x => some (.inr x)
  | _ => none
def asKeys : List D → Option (List Key)
  | [] => some []
  | d :: ds => match asKey d, asKeys ds with
    | some k, some ks => some (k :: ks)
    | _, _ => none
theorem asKey_eq {d : D} {k : Key} (h : asKey d = some k) : d = kD k := by
  cases d <;> cases h <;> rfl
theorem asKeys_eq : ∀ {ds : List D} {ks : List Key}, asKeys ds = some ks → ds = ks.map kD
  | [], ks, h => by cases h; rfl
  | d :: ds, ks, h => by
    have h' : (match asKey d, asKeys ds with
      | some k, some ks => some (k :: ks)
      | _, _ => none) = some ks := h
    cases q1 : asKey d with
    | none => rw [q1] at h'; cases h'
    | some k =>
      cases q2 : asKeys ds with
      | none => rw [q1, q2] at h'; cases h'
      | some r =>
        rw [q1, q2] at h'
        cases h'
        rw [List.map_cons, ← asKey_eq q1, ← asKeys_eq q2]
theorem kEq1_kD (a b : Key) : kEq1 (kD a) (kD b) = decide (a = b) := by
  cases a <;> cases b <;> simp [kD, kEq1]
theorem kEq_kD (a b : Key) : kEq (kD a) (kD b) = decide (a = b) := by
  rw [← kEq1_kD]
  cases a <;> cases b <;> rfl
theorem kEqs_kD : ∀ a b : List Key, kEqs (a.map kD) (b.map kD) = decide (a = b)
  | [], [] => rfl
  | [], _ :: _ => rfl
  | _ :: _, [] => rfl
  | x :: xs, y :: ys => by
    show (kEq1 (kD x) (kD y) && kEqs (xs.map kD) (ys.map kD)) = _
    rw [kEq1_kD, kEqs_kD xs ys]
    by_cases h1 : x = y
    · by_cases h2 : xs = ys
      · simp [h1, h2]
      · simp [h1, h2]
    · simp [h1]
theorem kEq_tup (a b : List Key) : kEq (.tup (a.map kD)) (.tup (b.map kD)) = decide (a = b) := kEqs_kD a b
/-! ### dicts as lists of pairs -/
def lookD : List (D × D) → D → Option D
  | [], _ => none
  | (k, v) :: r, q => if kEq k q = true then some v else lookD r q
def hasD (kvs : List (D × D)) (q : D) : Bool := kvs.any fun p => kEq p.1 q
def putD (kvs : List (D × D)) (q x : D) : List (D × D) := if hasD kvs q = true then kvs.map (fun p => if kEq p.1 q = true then (p.1, x) else p) else kvs ++ [(q, x)]
def dropD (kvs : List (D × D)) (q : D) : List (D × D) := kvs.filter fun p => !kEq p.1 q
section
variable {K : Frag} {F : Hp}
theorem RepK.look : ∀ {kvs : List (D × D)} {l : List (Key × V)} {k : Key}, RepK K F kvs l → (lookD kvs (kD k) = none ∧ valV l k = none) ∨ ∃ d v, lookD kvs (kD k) = some d ∧ valV l k = some v ∧ Rep K F d v
  | [], l, k, h => by
    cases (show l = [] from h)
    exact .inl ⟨rfl, rfl⟩
  | (q, d) :: r, l, k, h => by
    obtain ⟨k', v, m, e1, e2, h3, h4⟩ := h
    subst e1 e2
    by_cases e : k' = k
    · right
      refine ⟨d, v, ?_, valV_pos e, h3⟩
      unfold lookD
      rw [if_pos (by rw [kEq_kD]; exact decide_eq_true e)]
    · have hn : ¬ kEq (kD k') (kD k) = true := by rw [kEq_kD]; simpa using e
      have e1 : lookD ((kD k', d) :: r) (kD k) = lookD r (kD k) := if_neg hn
      rw [e1, valV_neg (p := (k', v)) e]
      exact RepK.look h4
theorem RepT.look : ∀ {kvs : List (D × D)} {l : List (List Key × V)} {k : List Key}, RepT K F kvs l → (lookD kvs (.tup (k.map kD)) = none ∧ valV l k = none) ∨ ∃ d v, lookD kvs (.tup (k.map kD)) = some d ∧ valV l k = some v ∧ Rep K F d v
  | [], l, k, h => by
    cases (show l = [] from h)
    exact .inl ⟨rfl, rfl⟩
  | (q, d) :: r, l, k, h => by
    obtain ⟨k', v, m, e1, e2, h3, h4⟩ := h
    subst e1 e2
    by_cases e : k' = k
    · right
      refine ⟨d, v, ?_, valV_pos e, h3⟩
      unfold lookD
      rw [if_pos (by rw [kEq_tup]; exact decide_eq_true e)]
    · have hn : ¬ kEq (.tup (k'.map kD)) (.tup (k.map kD)) = true := by rw [kEq_tup]; simpa using e
      have e1 : lookD ((.tup (k'.map kD), d) :: r) (.tup (k.map kD)) = lookD r (.tup (k.map kD)) := if_neg hn
      rw [e1, valV_neg (p := (k', v)) e]
      exact RepT.look h4
theorem RepK.has : ∀ {kvs : List (D × D)} {l : List (Key × V)} {k : Key}, RepK K F kvs l → hasD kvs (kD k) = l.any fun p => decide (p.1 = k)
  | [], l, k, h => by
    cases (show l = [] from h)
    rfl
  | (q, d) :: r, l, k, h => by
    obtain ⟨k', v, m, e1, e2, h3, h4⟩ := h
    subst e1 e2
    show (kEq (kD k') (kD k) || hasD r (kD k)) = (decide (k' = k) || m.any fun p => decide (p.1 = k))
    rw [kEq_kD, RepK.has h4]
theorem RepT.has : ∀ {kvs : List (D × D)} {l : List (List Key × V)} {k : List Key}, RepT K F kvs l → hasD kvs (.tup (k.map kD)) = l.any fun p => decide (p.1 = k)
  | [], l, k, h => by
    cases (show l = [] from h)
    rfl
  | (q, d) :: r, l, k, h => by
    obtain ⟨k', v, m, e1, e2, h3, h4⟩ := h
    subst e1 e2
    show (kEq (.tup (k'.map kD)) (.tup (k.map kD)) || hasD r (.tup (k.map kD))) = (decide (k' = k) || m.any fun p => decide (p.1 = k))
    rw [kEq_tup, RepT.has h4]
theorem RepK.append : ∀ {kvs : List (D × D)} {l : List (Key × V)} {k : Key} {d : D} {x : V}, RepK K F kvs l → Rep K F d x → RepK K F (kvs ++ [(kD k, d)]) (l ++ [(k, x)])
  | [], l, k, d, x, h, hd => by
    cases (show l = [] from h)
    exact ⟨k, x, [], rfl, rfl, hd, rfl⟩
  | (q, e) :: r, l, k, d, x, h, hd => by
    obtain ⟨k', v, m, e1, e2, h3, h4⟩ := h
    subst e1 e2
    exact ⟨k', v, m ++ [(k, x)], rfl, rfl, h3, RepK.append h4 hd⟩
theorem RepT.append : ∀ {kvs : List (D × D)} {l : List (List Key × V)} {k : List Key} {d : D} {x : V}, RepT K F kvs l → Rep K F d x → RepT K F (kvs ++ [(.tup (k.map kD), d)]) (l ++ [(k, x)])
  | [], l, k, d, x, h, hd => by
    cases (show l = [] from h)
    exact ⟨k, x, [], rfl, rfl, hd, rfl⟩
  | (q, e) :: r, l, k, d, x, h, hd => by
    obtain ⟨k', v, m, e1, e2, h3, h4⟩ := h
    subst e1 e2
    exact ⟨k', v, m ++ [(k, x)], rfl, rfl, h3, RepT.append h4 hd⟩
theorem RepK.mapPut : ∀ {kvs : List (D × D)} {l : List (Key × V)} {k : Key} {d : D} {x : V}, RepK K F kvs l → Rep K F d x → RepK K F (kvs.map fun p => if kEq p.1 (kD k) = true then (p.1, d) else p) (l.map fun p => if p.1 = k then (p.1, x) else p)
  | [], l, k, d, x, h, hd => by
    cases (show l = [] from h)
    rfl
  | (q, e) :: r, l, k, d, x, h, hd => by
    obtain ⟨k', v, m, e1, e2, h3, h4⟩ := h
    subst e1 e2
    rw [List.map_cons, List.map_cons]
    have ih := RepK.mapPut (k := k) h4 hd
    by_cases e' : k' = k
    · rw [if_pos (by rw [kEq_kD]; exact decide_eq_true e'), if_pos e']
      exact ⟨k', x, _, rfl, rfl, hd, ih⟩
    · rw [if_neg (by rw [kEq_kD]; simpa using e'), if_neg e']
      exact ⟨k', v, _, rfl, rfl, h3, ih⟩
theorem RepT.mapPut : ∀ {kvs : List (D × D)} {l : List (List Key × V)} {k : List Key} {d : D} {x : V}, RepT K F kvs l → Rep K F d x → RepT K F (kvs.map fun p => if kEq p.1 (.tup (k.map kD)) = true then (p.1, d) else p) (l.map fun p => if p.1 = k then (p.1, x) else p)
  | [], l, k, d, x, h, hd => by
    cases (show l = [] from h)
    rfl
  | (q, e) :: r, l, k, d, x, h, hd => by
    obtain ⟨k', v, m, e1, e2, h3, h4⟩ := h
    subst e1 e2
    rw [List.map_cons, List.map_cons]
    have ih := RepT.mapPut (k := k) h4 hd
    by_cases e' : k' = k
    · rw [if_pos (by rw [kEq_tup]; exact decide_eq_true e'), if_pos e']
      exact ⟨k', x, _, rfl, rfl, hd, ih⟩
    · rw [if_neg (by rw [kEq_tup]; simpa using e'), if_neg e']
      exact ⟨k', v, _, rfl, rfl, h3, ih⟩
theorem RepK.put {kvs : List (D × D)} {l : List (Key × V)} {k : Key} {d : D} {x : V} (h : RepK K F kvs l) (hd : Rep K F d x) : RepK K F (putD kvs (kD k) d) (putK l k x) := by
  unfold putD putK
  rw [h.has]
  split
  · exact h.mapPut hd
  · exact h.append hd
theorem RepT.put {kvs : List (D × D)} {l : List (List Key × V)} {k : List Key} {d : D} {x : V} (h : RepT K F kvs l) (hd : Rep K F d x) : RepT K F (putD kvs (.tup (k.map kD)) d) (putK l k x) := by
  unfold putD putK
  rw [h.has]
  split
  · exact h.mapPut hd
  · exact h.append hd
theorem RepK.drop : ∀ {kvs : List (D × D)} {l : List (Key × V)} {k : Key}, RepK K F kvs l → RepK K F (dropD kvs (kD k)) (dropK l k)
  | [], l, k, h => by
    cases (show l = [] from h)
    rfl
  | (q, e) :: r, l, k, h => by
    obtain ⟨k', v, m, e1, e2, h3, h4⟩ := h
    subst e1 e2
    have ih := RepK.drop (k := k) h4
    unfold dropD dropK at ih ⊢
    rw [List.filter_cons, List.filter_cons]
    by_cases e' : k' = k
    · rw [if_neg (by rw [kEq_kD, decide_eq_true e']; simp), if_neg (by simp [e'])]
      exact ih
    · rw [if_pos (by rw [kEq_kD, decide_eq_false e']; rfl), if_pos (by simp [e'])]
      exact ⟨k', v, _, rfl, rfl, h3, ih⟩
end
/-! ### subscripts -/
def ixD : D → D → Res D
  | .lst xs, .int i => match atI xs i with
    | some d => .ok d
    | none => .bad
  | .tup xs, .int i => match atI xs i with
    | some d => .ok d
    | none => .bad
  | .str z, .int i => if z.length ≤ sizeLine then (match atI z.cps.toList i with
    | some c => .ok (.str ⟨#[c]⟩)
    | none => .bad) else .bad
  | .dic false kvs, .tup _ => .bad
  | .dic false kvs, k => match asKey k with
    | some _ => (match lookD kvs k with
      | some d => .ok d
      | none => .bad)
    | none => .bad
  | .dic true kvs, .tup ks => match asKeys ks with
    | some _ => (match lookD kvs (.tup ks) with
      | some d => .ok d
      | none => .bad)
    | none => .bad
  | _, _ => .bad
theorem ixD_nx (x y : D) : Noex (ixD x y) := fun e h => by
  unfold ixD at h
  split at h <;> first | cases h | (split at h <;> first | cases h | (split at h <;> first | cases h | (split at h <;> cases h)))
/-- what a dict holds, its key perhaps a constant of the module -/
def DGetX (K : Frag) (H : Hp) (a : Addr) (y : V) (r : Option V) : Prop :=
  (∃ kvs k, Rd H a (.dK kvs) ∧ y = kV k ∧ r = valV kvs k) ∨ ∃ kvs k b, Rd H a (.dT kvs) ∧ y = .ref b ∧ SqT K H b (k.map kV) ∧ r = valV kvs k
section
variable {X : Cx} {pins : List (Addr × Obj)} {σ : L2.St} {H : Hp} {s : Shared} {a : Addr} {y v : V} {u r : Value} {o : Option V} {A : Around} {E : Value → Shared → Prop}
theorem key_ofX {b : Addr} {ks : List Key} (I : Inv X pins σ H s) (h : SqT X.K H b (ks.map kV)) : (tupleKind (mixKind X.prog X.w)).is s.heap ks b := by
  obtain ⟨its, rv, ⟨o, h1, h2, n, h3⟩, _⟩ := I.tuple h
  exact ⟨o, its.toArray, n, h1, h2, h3, by simpa using items_are rv⟩
theorem d_getItemX {Q : Value → Shared → Prop} (hu : A.units + 1 < cLine) (I : Inv X pins σ H s) (g : DGetX X.K H a y (some v)) (ry : RelV y u) (h : ∀ w' s', Inv X pins σ H s' → RelV v w' → Q w' s') :
    wpAny (model X.prog X.w) A (getItem (.ref a) u) Q E s := by
  rcases g with ⟨kvs, k, e, ey, l⟩ | ⟨kvs, k, b, e, ey, eb, l⟩
  · exact d_getItem hu I (.inl ⟨kvs, k, e, ey, l⟩) ry h
  · subst ey
    cases (show u = Value.ref b from ry)
    obtain ⟨z, hd, xs, rel, dd⟩ := dt_rd I.hok e
    obtain ⟨w', hw, rw'⟩ := RelO.some_of (v := v) (o := (atKey xs k).map (·.2)) (by rw [l]; exact rel.val k)
    obtain ⟨p, hp, hp2⟩ := Option.map_eq_some_iff.mp hw
    refine wpAny_getItem_heap (tupleKind_room_in1 hu) (key_ofX I eb) dd hp ?_
    rw [hp2]
    exact h w' _ (I.tok _) rw'
theorem d_inX {Q : Value → Shared → Prop} (hu : A.units + 1 < cLine) (I : Inv X pins σ H s) (g : DGetX X.K H a y o) (ry : RelV y u) (h : ∀ s', Inv X pins σ H s' → Q (.bool o.isSome) s') :
    wpAny (model X.prog X.w) A (compareOp .In u (.ref a)) Q E s := by
  rcases g with ⟨kvs, k, e, ey, l⟩ | ⟨kvs, k, b, e, ey, eb, l⟩
  · exact d_in hu I (.inl ⟨kvs, k, e, ey, l⟩) ry h
  · subst ey
    cases (show u = Value.ref b from ry)
    obtain ⟨z, hd, xs, rel, dd⟩ := dt_rd I.hok e
    refine wpAny_in_heap (tupleKind_room_in1 hu) (key_ofX I eb) hd dd ?_
    have q := (rel.val k).isSome_eq
    rw [Option.isSome_map] at q
    rw [← q, ← l]
    exact h _ (I.tok _)
theorem d_notInX {Q : Value → Shared → Prop} (hu : A.units + 1 < cLine) (I : Inv X pins σ H s) (g : DGetX X.K H a y o) (ry : RelV y u) (h : ∀ s', Inv X pins σ H s' → Q (.bool (!o.isSome)) s') :
    wpAny (model X.prog X.w) A (compareOp .NotIn u (.ref a)) Q E s := by
  rcases g with ⟨kvs, k, e, ey, l⟩ | ⟨kvs, k, b, e, ey, eb, l⟩
  · exact d_notIn hu I (.inl ⟨kvs, k, e, ey, l⟩) ry h
  · subst ey
    cases (show u = Value.ref b from ry)
    obtain ⟨z, hd, xs, rel, dd⟩ := dt_rd I.hok e
    refine PyProof.Rows.wpAny_notIn_heap (tupleKind_room_in1 hu) (key_ofX I eb) hd dd ?_
    have q := (rel.val k).isSome_eq
    rw [Option.isSome_map] at q
    rw [← q, ← l]
    exact h _ (I.tok _)
theorem dgx_typeIs (I : Inv X pins σ H s) (g : DGetX X.K H a y o) : s.TypeIs (.ref a) "dict" := by
  rcases g with ⟨kvs, k, e, _, _⟩ | ⟨kvs, k, b, e, _, _, _⟩
  · obtain ⟨_, _, vs, _, dd⟩ := dk_rd I.hok e
    exact dd.typeIs
  · obtain ⟨_, _, xs, _, dd⟩ := dt_rd I.hok e
    exact dd.typeIs
end
section
variable {X : Cx}
def rIxD (K : Frag) : R2 := fun x y H Q => ∃ a v, x = .ref a ∧ DGetX K H a y (some v) ∧ Q v H
theorem ix_dict (hu : X.A.units + 1 < cLine) : IxR X (rIxD X.K) := by
  intro value slice pins s σ H x y v u Q I rx ry h hs
  obtain ⟨a, z, rfl, g, q⟩ := h
  cases rx
  have hT := dgx_typeIs I g
  unfold PyProof.Rows.subscriptTail
  refine wpAny_bind ?_
  rw [getitemInPython_of_ne hT.not_modules]
  refine wpAny_bind (wpAny_specialOf hT PySem.F.slot_dict_getitem.lookup ?_)
  have fin : wpAny (model X.prog X.w) X.A (subscripted slice false (.ref a) u) (fun r s₃ => wpAny (model X.prog X.w) X.A (letTemporaryGo value (.ref a) r >>= fun _ => pure r) (EP X pins σ Q) X.xe s₃) X.xe s := by
    rw [hs]
    exact wpAny_operating (d_getItemX hu I g ry fun w' s' I' r' => wpAny_bind (wpAny_letTemporaryGo (wpAny_pure ⟨z, H, I', r', q⟩)))
  first
    | exact wpAny_pure (wpAny_bind fin)
    | exact wpAny_bind (wpAny_pure (wpAny_bind fin))
    | exact wpAny_bind fin
abbrev rIx4 (K : Frag) : R2 := fun x y H Q => (rIxL K x y H Q ∨ rIxT K x y H Q) ∨ rIxS x y H Q ∨ rIxD K x y H Q
theorem ix_all (hu : X.A.units + 1 < cLine) : IxR X (rIx4 X.K) := IxR.or (IxR.or ix_list ix_tup) (IxR.or ix_str (ix_dict hu))
end
section
variable {K : Frag} {os : List Bool}
theorem Reps.atI {F : Hp} {ds : List D} {vs : List V} {i : Int} {d : D} (r : Reps K F ds vs) (h : L2.atI ds i = some d) : ∃ v, L2.atI vs i = some v ∧ Rep K F d v := by
  unfold L2.atI at h ⊢
  rw [r.length]
  cases q : ixN ds.length i with
  | none => rw [q] at h; cases h
  | some j =>
    rw [q] at h
    exact r.get h
theorem key_view {F H : Hp} {d : D} {k : Key} {v : V} (e : asKey d = some k) (h : View K F H d v) : v = kV k := by
  cases d with
  | int i => cases e; exact h
  | str x => cases e; exact h
  | _ => cases e
theorem reps_kV : ∀ {F : Hp} {ks : List Key} {vs : List V}, Reps K F (ks.map kD) vs → vs = ks.map kV
  | F, [], vs, h => h
  | F, k :: ks, vs, h => by
    obtain ⟨v, r, e, h1, h2⟩ := h
    rw [e, reps_kV h2]
    have : v = kV k := by cases k <;> exact h1
    rw [this]; rfl
theorem dgetK {F H : Hp} {kvs : List (D × D)} {q : D} {k : Key} {x y : V} (vx : View K F H (.dic false kvs) x) (e : asKey q = some k) (vy : View K F H q y) :
    ∃ a, x = .ref a ∧ ((lookD kvs q = none ∧ DGetX K H a y none) ∨ ∃ d v, lookD kvs q = some d ∧ DGetX K H a y (some v) ∧ Rep K F d v) := by
  obtain ⟨a, ea, h⟩ := vx
  rcases h with ⟨_, l, hl, hk⟩ | ⟨h, _⟩
  · refine ⟨a, ea, ?_⟩
    have ey := key_view e vy
    have eq := asKey_eq e
    subst eq
    rcases hk.look (k := k) with ⟨h1, h2⟩ | ⟨d, v, h1, h2, h3⟩
    · exact .inl ⟨h1, .inl ⟨l, k, hl, ey, h2.symm⟩⟩
    · exact .inr ⟨d, v, h1, .inl ⟨l, k, hl, ey, h2.symm⟩, h3⟩
  · cases h
theorem dgetT {F H : Hp} {kvs : List (D × D)} {ds : List D} {ks : List Key} {x y : V} (vx : View K F H (.dic true kvs) x) (e : asKeys ds = some ks) (vy : View K F H (.tup ds) y) :
    ∃ a, x = .ref a ∧ ((lookD kvs (.tup ds) = none ∧ DGetX K H a y none) ∨ ∃ d v, lookD kvs (.tup ds) = some d ∧ DGetX K H a y (some v) ∧ Rep K F d v) := by
  obtain ⟨a, ea, h⟩ := vx
  rcases h with ⟨h, _⟩ | ⟨_, l, hl, hk⟩
  · cases h
  · refine ⟨a, ea, ?_⟩
    have eq := asKeys_eq e
    subst eq
    obtain ⟨b, vs, eb, hb, hr⟩ := vy
    have ev := reps_kV hr
    subst ev
    rcases hk.look (k := ks) with ⟨h1, h2⟩ | ⟨d, v, h1, h2, h3⟩
    · exact .inl ⟨h1, .inr ⟨l, ks, b, hl, eb, hb, h2.symm⟩⟩
    · exact .inr ⟨d, v, h1, .inr ⟨l, ks, b, hl, eb, hb, h2.symm⟩, h3⟩
theorem ixD_ok : Op2 K os (rIx4 K) ixD (rD K) := by
  intro g ρ σ H F x y dx dy d Q hR vx vy e q
  cases dx with
  | lst xs =>
    cases dy with
    | int i =>
      have e' : (match atI xs i with
        | some d => .ok d
        | none => .bad) = Res.ok d := e
      cases z : atI xs i with
      | none => rw [z] at e'; cases e'
      | some d0 =>
        rw [z] at e'
        cases e'
        obtain ⟨a, vs, ea, ha, ra⟩ := vx
        obtain ⟨v, hv, rv⟩ := ra.atI z
        exact .inl (.inl ⟨a, vs, i, v, ea, vy, ha, hv, q v H F hR FLe.refl rv⟩)
    | _ => cases e
  | tup xs =>
    cases dy with
    | int i =>
      have e' : (match atI xs i with
        | some d => .ok d
        | none => .bad) = Res.ok d := e
      cases z : atI xs i with
      | none => rw [z] at e'; cases e'
      | some d0 =>
        rw [z] at e'
        cases e'
        obtain ⟨a, vs, ea, ha, ra⟩ := vx
        obtain ⟨v, hv, rv⟩ := ra.atI z
        exact .inl (.inr ⟨a, vs, i, v, ea, vy, ha, hv, q v H F hR FLe.refl rv⟩)
    | _ => cases e
  | str z =>
    cases dy with
    | int i =>
      have e' : (if z.length ≤ sizeLine then (match atI z.cps.toList i with
        | some c => .ok (.str ⟨#[c]⟩)
        | none => .bad) else .bad) = Res.ok d := e
      split at e'
      · rename_i hz
        cases w : atI z.cps.toList i with
        | none => rw [w] at e'; cases e'
        | some c =>
          rw [w] at e'
          cases e'
          exact .inr (.inl ⟨z, i, c, vx, vy, hz, w, q _ H F hR FLe.refl rfl⟩)
      · cases e'
    | _ => cases e
  | dic t kvs =>
    cases t with
    | false =>
      have key : ∀ k, asKey dy = some k → (match lookD kvs dy with
        | some d => Res.ok d
        | none => .bad) = .ok d → rIx4 K x y H Q := fun k hk e' => by
        obtain ⟨a, ea, h⟩ := dgetK vx hk vy
        rcases h with ⟨h1, _⟩ | ⟨d', v, h1, h2, h3⟩
        · rw [h1] at e'; cases e'
        · rw [h1] at e'
          cases e'
          exact .inr (.inr ⟨a, v, ea, h2, q v H F hR FLe.refl h3⟩)
      cases dy with
      | int i => exact key (.inl i) rfl e
      | str i => exact key (.inr i) rfl e
      | _ => cases e
    | true =>
      cases dy with
      | tup ds =>
        have e' : (match asKeys ds with
          | some _ => (match lookD kvs (.tup ds) with
            | some d => .ok d
            | none => .bad)
          | none => .bad) = Res.ok d := e
        cases hk : asKeys ds with
        | none => rw [hk] at e'; cases e'
        | some ks =>
          rw [hk] at e'
          obtain ⟨a, ea, h⟩ := dgetT vx hk vy
          rcases h with ⟨h1, _⟩ | ⟨d', v, h1, h2, h3⟩
          · rw [h1] at e'; cases e'
          · rw [h1] at e'
            cases e'
            exact .inr (.inr ⟨a, v, ea, h2, q v H F hR FLe.refl h3⟩)
      | _ => cases e
  | _ => cases e
end
section
variable {X : Cx} {E : XK} {os : List Bool} {a b : Expr} {pos : Pos} {fa fb : EM D}
theorem de_ix (hu : X.A.units + 1 < cLine) (hs : PlainIx b) (ha : PE X a (sD X.K E os fa)) (hb : PE X b (sV X.K E os fb)) : PE X (.Subscript a b pos) (sD X.K E os (e2 ixD fa fb)) := PE.weak (pe_ix (ix_all hu) ha hb hs) fun σ H Q h => bin_read ixD_ok ixD_nx h
theorem de_ixN {i : Nat} (hu : X.A.units + 1 < cLine) (hs : PlainIx b) (ha : PE X a (tVar i)) (hb : PE X b (sV X.K E os fb)) : PE X (.Subscript a b pos) (sD X.K E os (e2N ixD i fb)) := PE.weak (pe_ix (ix_all hu) ha hb hs) fun σ H Q h => bin_readN ixD_ok ixD_nx h
end
/-! ### in -/
def flatD : D → Bool
  | .non | .bl _ | .int _ | .str _ => true
  | _ => false
def eqF : D → D → Bool
  | .non, .non => true
  | .bl a, .bl b => a == b
  | .int a, .int b => decide (a = b)
  | .str a, .str b => decide (a = b)
  | .bl a, .int b => decide ((if a then 1 else 0) = b)
  | .int a, .bl b => decide (a = (if b then 1 else 0))
  | _, _ => false
end DL
/-! DL9: in, len, stores, methods, built-ins. -/
namespace DL
open PySem PySem.Spec L2
set_option autoImplicit false
/-! ### in -/
def inSeq (x : D) (ds : List D) : Res Bool := if flatD x = true ∧ ds.all flatD = true then .ok (ds.any fun y => eqF y x) else .bad
def inD : D → D → Res Bool
  | x, .lst ds => inSeq x ds
  | x, .tup ds => inSeq x ds
  | .str x, .str y => .ok (!(Builtin.Str.occurrences y x 0 y.length 1).isEmpty)
  | .tup _, .dic false _ => .bad
  | x, .dic false kvs => match asKey x with
    | some _ => .ok (lookD kvs x).isSome
    | none => .bad
  | .tup ks, .dic true kvs => match asKeys ks with
    | some _ => .ok (lookD kvs (.tup ks)).isSome
    | none => .bad
  | _, _ => .bad
def notInD (x y : D) : Res Bool := match inD x y with
  | .ok b => .ok (!b)
  | r => r
theorem inSeq_nx (x : D) (ds : List D) : Noex (inSeq x ds) := fun e h => by unfold inSeq at h; split at h <;> cases h
theorem inD_nx (x y : D) : Noex (inD x y) := fun e h => by
  unfold inD at h
  split at h <;> first | exact inSeq_nx _ _ e h | cases h | (split at h <;> cases h)
theorem notInD_nx (x y : D) : Noex (notInD x y) := fun e h => by
  unfold notInD at h
  split at h
  · cases h
  · exact inD_nx x y e h
section
variable {X : Cx}
def rInD (K : Frag) (neg : Bool) : R2 := fun x y H Q => ∃ a o, y = .ref a ∧ DGetX K H a x o ∧ Q (.bl (if neg then !o.isSome else o.isSome)) H
theorem op_inD (hu : X.A.units + 1 < cLine) : OpR X (compareOp .In) (rInD X.K false) := by
  intro pins s σ H x y v u Q I rx ry ⟨a, o, e, g, q⟩
  subst e
  cases ry
  exact d_inX hu I g rx fun s' I' => ⟨.bl o.isSome, H, I', rfl, q⟩
theorem op_notInD (hu : X.A.units + 1 < cLine) : OpR X (compareOp .NotIn) (rInD X.K true) := by
  intro pins s σ H x y v u Q I rx ry ⟨a, o, e, g, q⟩
  subst e
  cases ry
  exact d_notInX hu I g rx fun s' I' => ⟨.bl (!o.isSome), H, I', rfl, q⟩
def rInS (neg : Bool) : R2 := fun x y H Q => ∃ i j, x = .str i ∧ y = .str j ∧ Q (.bl (if neg then !(!(Builtin.Str.occurrences j i 0 j.length 1).isEmpty) else !(Builtin.Str.occurrences j i 0 j.length 1).isEmpty)) H
abbrev rIn3 (K : Frag) (neg : Bool) : R2 := fun x y H Q => (rIn K neg x y H Q ∨ rInS neg x y H Q) ∨ rInD K neg x y H Q
theorem op_in3 (hu : X.A.units + 1 < cLine) : OpR X (compareOp .In) (rIn3 X.K false) := OpR.or (OpR.or op_in_seq op_in_str) (op_inD hu)
theorem op_notIn3 (hu : X.A.units + 1 < cLine) : OpR X (compareOp .NotIn) (rIn3 X.K true) := OpR.or (OpR.or op_notIn_seq op_notin_str) (op_notInD hu)
end
section
variable {K : Frag} {os : List Bool}
theorem flat_rep {F : Hp} {d : D} {v : V} (f : flatD d = true) (h : Rep K F d v) : flatV v = true := by
  cases d with
  | non => cases (show v = .non from h); rfl
  | bl b => cases (show v = .bl b from h); rfl
  | int b => cases (show v = .int b from h); rfl
  | str b => cases (show v = .str b from h); rfl
  | _ => cases f
theorem flat_view {F H : Hp} {d : D} {v : V} (f : flatD d = true) (h : View K F H d v) : flatV v = true := by
  cases d with
  | non => exact flat_rep (K := K) (F := F) f h
  | bl b => exact flat_rep (K := K) (F := F) f h
  | int b => exact flat_rep (K := K) (F := F) f h
  | str b => exact flat_rep (K := K) (F := F) f h
  | _ => cases f
theorem eqF_V {F F' H : Hp} {x y : D} {v u : V} (fx : flatD x = true) (fy : flatD y = true) (hx : View K F H x v) (hy : Rep K F' y u) : eqV u v = eqF y x := by
  cases y <;> first | cases fy | skip
  all_goals cases (show u = _ from hy)
  all_goals cases x <;> first | cases fx | skip
  all_goals cases (show v = _ from hx)
  all_goals simp [eqV, eqF, Bool.beq_eq_decide_eq]
theorem any_eqF {F F' H : Hp} {x : D} {v : V} (fx : flatD x = true) (hx : View K F H x v) : ∀ {ds : List D} {us : List V}, ds.all flatD = true → Reps K F' ds us → inV v us = ds.any fun y => eqF y x
  | [], us, _, h => by
    cases (show us = [] from h)
    rfl
  | d :: ds, us, f, h => by
    obtain ⟨u, r, e, h1, h2⟩ := h
    subst e
    rw [List.all_cons, Bool.and_eq_true] at f
    show (eqV u v || inV v r) = (eqF d x || ds.any fun y => eqF y x)
    rw [eqF_V fx f.1 hx h1, any_eqF fx hx f.2 h2]
theorem all_flat {F : Hp} : ∀ {ds : List D} {us : List V}, ds.all flatD = true → Reps K F ds us → us.all flatV = true
  | [], us, _, h => by
    cases (show us = [] from h)
    rfl
  | d :: ds, us, f, h => by
    obtain ⟨u, r, e, h1, h2⟩ := h
    subst e
    rw [List.all_cons, Bool.and_eq_true] at f ⊢
    exact ⟨flat_rep f.1 h1, all_flat f.2 h2⟩
theorem in_read (neg : Bool) {F H : Hp} {x y : V} {dx dy : D} {b : Bool} {Q : VK} (vx : View K F H dx x) (vy : View K F H dy y) (e : inD dx dy = .ok b) (q : Q (.bl (if neg then !b else b)) H) : rIn3 K neg x y H Q := by
  have seq : ∀ {ds : List D} {a : Addr} {us : List V}, y = .ref a → (SqL K H a us ∨ SqT K H a us) → Reps K F ds us → inSeq dx ds = .ok b → rIn3 K neg x y H Q := fun {ds a us} ea hs hr e => by
    unfold inSeq at e
    split at e
    · rename_i hf
      cases e
      refine .inl (.inl ⟨a, us, ea, hs, flat_view hf.1 vx, all_flat hf.2 hr, ?_⟩)
      rw [any_eqF hf.1 vx hf.2 hr]
      exact q
    · cases e
  have dicK : ∀ {kvs : List (D × D)} {k : Key}, View K F H (.dic false kvs) y → asKey dx = some k → b = (lookD kvs dx).isSome → rIn3 K neg x y H Q := fun {kvs k} vy hk eb => by
    obtain ⟨a, ea, h⟩ := dgetK vy hk vx
    rcases h with ⟨h1, h2⟩ | ⟨d', v, h1, h2, h3⟩
    · rw [h1] at eb
      subst eb
      exact .inr ⟨a, none, ea, h2, q⟩
    · rw [h1] at eb
      subst eb
      exact .inr ⟨a, some v, ea, h2, q⟩
  cases dy with
  | lst ds =>
    obtain ⟨a, us, ea, ha, hr⟩ := vy
    refine seq ea (.inl ha) hr ?_
    cases dx <;> exact e
  | tup ds =>
    obtain ⟨a, us, ea, ha, hr⟩ := vy
    refine seq ea (.inr ha) hr ?_
    cases dx <;> exact e
  | str z =>
    cases dx with
    | str w =>
      cases e
      exact .inl (.inr ⟨w, z, vx, vy, q⟩)
    | _ => cases e
  | dic t kvs =>
    cases t with
    | false =>
      cases dx with
      | int i => cases e; exact dicK (k := .inl i) vy rfl rfl
      | str i => cases e; exact dicK (k := .inr i) vy rfl rfl
      | _ => cases e
    | true =>
      cases dx with
      | tup ds =>
        have e' : (match asKeys ds with
          | some _ => Res.ok (lookD kvs (.tup ds)).isSome
          | none => .bad) = .ok b := e
        cases hk : asKeys ds with
        | none => rw [hk] at e'; cases e'
        | some ks =>
          rw [hk] at e'
          cases e'
          obtain ⟨a, ea, h⟩ := dgetT vy hk vx
          rcases h with ⟨h1, h2⟩ | ⟨d', v, h1, h2, h3⟩
          · rw [h1] at q
            exact .inr ⟨a, none, ea, h2, q⟩
          · rw [h1] at q
            exact .inr ⟨a, some v, ea, h2, q⟩
      | _ => cases e
  | _ => cases dx <;> cases e
theorem inD_ok : Op2B K os (rIn3 K false) inD := by
  intro g ρ σ H F x y dx dy b Q hR vx vy e q
  exact in_read false vx vy e (q H F hR FLe.refl)
theorem notInD_ok : Op2B K os (rIn3 K true) notInD := by
  intro g ρ σ H F x y dx dy b Q hR vx vy e q
  unfold notInD at e
  split at e
  · rename_i b' eb
    cases e
    exact in_read true vx vy eb (q H F hR FLe.refl)
  · rename_i r hr
    exact absurd e (hr b)
end
/-! ### calls of built-ins with one argument that is read -/
section
variable {X : Cx} {E : XK} {os : List Bool} {e : Expr} {pos p : Pos} {fa : EM D} {x : Str}
def rV1 (K : Frag) : Gh → Ev → L2.St → Hp → Hp → D → List V → Prop := fun _ _ _ H F d vs => ∃ v, vs = [v] ∧ View K F H d v
theorem da_one (ha : PE X e (sV X.K E os fa)) (hs : starEach [e] X.env = (false, eval e X.env) :: starEach [] X.env := by rfl) : PA X [e] (tG X.K E os (rV1 X.K) fa) := PA.weak (pa_cons ha pa_nil hs) fun σ H Q ⟨g, ρ, F, r, w⟩ => by
  refine ⟨g, ρ, F, r, ?_⟩
  cases q : fa ρ with
  | ok pr =>
    obtain ⟨d, ρ'⟩ := pr
    rw [q] at w
    exact fun v H' F' hR le hv => w [v] H' F' hR le ⟨v, rfl, hv⟩
  | exc y => rw [q] at w; exact w
  | bad => rw [q] at w; exact w
theorem de_call1 {r : List V → Hp → VK → Prop} {rl : Gh → Ev → L2.St → Hp → Hp → D → V → Prop} {g1 : D → Res D} (hs : ∀ {t : TA}, PA X [e] t → PE X (.Call (.Name x p) [e] [] pos) (tCB r t)) (hg : Op1 X.K os (fun v => r [v]) g1 rl) (hn : ∀ x, Noex (g1 x)) (ha : PE X e (sV X.K E os fa)) (he : starEach [e] X.env = (false, eval e X.env) :: starEach [] X.env := by rfl) :
    PE X (.Call (.Name x p) [e] [] pos) (tG X.K E os rl (e1 g1 fa)) := PE.weak (hs (da_one ha he)) fun σ H Q ⟨g, ρ, F, hR, w⟩ => by
  refine tG.bind hR w fun dx vs ρ1 H1 F1 hR1 le1 rx w1 => ?_
  obtain ⟨v, ev, vv⟩ := rx
  subst ev
  obtain ⟨d, ed, w3⟩ := w1.lift2 (hn _)
  exact hg g ρ1 σ H1 F1 v dx d Q hR1 vv ed w3
/-- two: the first a datum -/
theorem de_call2 {e2' : Expr} {fb : EM D} {r : List V → Hp → VK → Prop} {rl : Gh → Ev → L2.St → Hp → Hp → D → V → Prop} {g2 : D → D → Res D} (hs : ∀ {t : TA}, PA X [e, e2'] t → PE X (.Call (.Name x p) [e, e2'] [] pos) (tCB r t)) (hg : Op2 X.K os (fun v u => r [v, u]) g2 rl) (hn : ∀ x y, Noex (g2 x y)) (ha : PE X e (sD X.K E os fa)) (hb : PE X e2' (sV X.K E os fb))
    (he : starEach [e, e2'] X.env = (false, eval e X.env) :: starEach [e2'] X.env := by rfl) (he2 : starEach [e2'] X.env = (false, eval e2' X.env) :: starEach [] X.env := by rfl) :
    PE X (.Call (.Name x p) [e, e2'] [] pos) (tG X.K E os rl (e2 g2 fa fb)) := PE.weak (hs (pa_cons ha (pa_cons hb pa_nil he2) he)) fun σ H Q h => bin_read hg hn h
/-- the first a name -/
theorem de_call2N {i : Nat} {e2' : Expr} {fb : EM D} {r : List V → Hp → VK → Prop} {rl : Gh → Ev → L2.St → Hp → Hp → D → V → Prop} {g2 : D → D → Res D} (hs : ∀ {t : TA}, PA X [e, e2'] t → PE X (.Call (.Name x p) [e, e2'] [] pos) (tCB r t)) (hg : Op2 X.K os (fun v u => r [v, u]) g2 rl) (hn : ∀ x y, Noex (g2 x y)) (ha : PE X e (tVar i)) (hb : PE X e2' (sV X.K E os fb))
    (he : starEach [e, e2'] X.env = (false, eval e X.env) :: starEach [e2'] X.env := by rfl) (he2 : starEach [e2'] X.env = (false, eval e2' X.env) :: starEach [] X.env := by rfl) :
    PE X (.Call (.Name x p) [e, e2'] [] pos) (tG X.K E os rl (e2N g2 i fb)) := PE.weak (hs (pa_cons ha (pa_cons hb pa_nil he2) he)) fun σ H Q h => bin_readN hg hn h
end
/-! len -/
def lenD : D → Res D
  | .str x => if x.length ≤ sizeLine then .ok (.int x.length) else .bad
  | .lst xs => .ok (.int xs.length)
  | .tup xs => .ok (.int xs.length)
  | .dic _ kvs => .ok (.int kvs.length)
  | _ => .bad
theorem lenD_nx (x : D) : Noex (lenD x) := fun e h => by unfold lenD at h; split at h <;> first | cases h | (split at h <;> cases h)
def rLenD : List V → Hp → VK → Prop := fun xs H Q => ∃ a, xs = [V.ref a] ∧ ((∃ kvs : List (Key × V), Rd H a (.dK kvs) ∧ Q (.int kvs.length) H) ∨ ∃ kvs : List (List Key × V), Rd H a (.dT kvs) ∧ Q (.int kvs.length) H)
section
variable {X : Cx}
theorem call_lenD2 : CallR X (.builtin "len") rLenD := by
  intro pins s σ H xs us Q I r h
  obtain ⟨a, rfl, h⟩ := h
  obtain ⟨u, rfl, ru⟩ := vals1 r
  cases ru
  rcases h with ⟨kvs, ha, q⟩ | ⟨kvs, ha, q⟩
  · exact d_len I ha fun t s' I' => ⟨.int kvs.length, H, I', ⟨t, rfl⟩, q⟩
  · obtain ⟨z, hd, xs, rel, dd⟩ := dt_rd I.hok ha
    have l1 : kvs.length = xs.length := Paired.length rel
    refine call_len_dictH hd dd (by rw [← l1]; rw [sizeLine_eq] at z; omega) ?_
    rw [← l1]
    exact ⟨.int kvs.length, H, I.tok _, ⟨_, rfl⟩, q⟩
theorem CallR.or {f : Value} {r r' : List V → Hp → VK → Prop} (h : CallR X f r) (h' : CallR X f r') : CallR X f (fun xs H Q => r xs H Q ∨ r' xs H Q) := fun pins s σ H xs us Q I rv q => q.elim (h pins s σ H xs us Q I rv) (h' pins s σ H xs us Q I rv)
end
end DL
/-! DL10: len, truth, stores, methods, built-ins. -/
namespace DL
open PySem PySem.Spec L2
set_option autoImplicit false
section
variable {X : Cx} {K : Frag} {os : List Bool} {E : XK}
abbrev rLen2 (K : Frag) : List V → Hp → VK → Prop := fun xs H Q => (∃ x n, xs = [x] ∧ LenV K x H n ∧ Q (.int n) H) ∨ rLenD xs H Q
theorem call_len2 : CallR X (.builtin "len") (rLen2 X.K) := CallR.or call_len call_lenD2
theorem lenD_ok : Op1 K os (fun v => rLen2 K [v]) lenD (rD K) := by
  intro g ρ σ H F x dx d Q hR vx e q
  cases dx with
  | str z =>
    have e' : (if z.length ≤ sizeLine then Res.ok (D.int z.length) else .bad) = .ok d := e
    split at e'
    · rename_i hz
      cases e'
      cases (show x = .str z from vx)
      exact .inl ⟨.str z, z.length, rfl, ⟨hz, rfl⟩, q _ H F hR FLe.refl rfl⟩
    · cases e'
  | lst xs =>
    cases e
    obtain ⟨a, vs, ea, ha, hr⟩ := vx
    refine .inl ⟨x, vs.length, rfl, ?_, q _ H F hR FLe.refl (by rw [hr.length]; rfl)⟩
    rw [ea]
    exact .inl ⟨vs, ha, rfl⟩
  | tup xs =>
    cases e
    obtain ⟨a, vs, ea, ha, hr⟩ := vx
    refine .inl ⟨x, vs.length, rfl, ?_, q _ H F hR FLe.refl (by rw [hr.length]; rfl)⟩
    rw [ea]
    exact .inr ⟨vs, ha, rfl⟩
  | dic t kvs =>
    cases e
    obtain ⟨a, ea, h⟩ := vx
    refine .inr ⟨a, by rw [ea], ?_⟩
    rcases h with ⟨_, l, hl, hk⟩ | ⟨_, l, hl, hk⟩
    · exact .inl ⟨l, hl, q _ H F hR FLe.refl (by rw [hk.length]; rfl)⟩
    · exact .inr ⟨l, hl, q _ H F hR FLe.refl (by rw [hk.length]; rfl)⟩
  | _ => cases e
/-! int, abs, gcd, str -/
def intD : D → Res D
  | .int i => .ok (.int i)
  | .bl b => .ok (.int (if b then 1 else 0))
  | _ => .bad
def absD : D → Res D
  | .int i => .ok (.int (if i < 0 then -i else i))
  | _ => .bad
def gcdD : D → D → Res D
  | .int i, .int j => .ok (.int ((Nat.gcd i.natAbs j.natAbs : Nat) : Int))
  | _, _ => .bad
def maxD : D → D → Res D
  | .int i, .int j => .ok (.int (if j > i then j else i))
  | _, _ => .bad
def minD : D → D → Res D
  | .int i, .int j => .ok (.int (if j < i then j else i))
  | _, _ => .bad
def strD : D → Res D
  | .int i => if i.natAbs.log2 < 1920 then .ok (.str (toString i)) else .bad
  | _ => .bad
theorem intD_nx (x : D) : Noex (intD x) := fun e h => by unfold intD at h; split at h <;> cases h
theorem absD_nx (x : D) : Noex (absD x) := fun e h => by unfold absD at h; split at h <;> cases h
theorem gcdD_nx (x y : D) : Noex (gcdD x y) := fun e h => by unfold gcdD at h; split at h <;> cases h
theorem maxD_nx (x y : D) : Noex (maxD x y) := fun e h => by unfold maxD at h; split at h <;> cases h
theorem minD_nx (x y : D) : Noex (minD x y) := fun e h => by unfold minD at h; split at h <;> cases h
theorem strD_nx (x : D) : Noex (strD x) := fun e h => by unfold strD at h; split at h <;> first | cases h | (split at h <;> cases h)
abbrev rInt1 : List V → Hp → VK → Prop := fun xs H Q => (∃ i, xs = [.int i] ∧ Q (.int i) H) ∨ ∃ k, xs = [.bl k] ∧ Q (.int (if k then 1 else 0)) H
theorem intD_ok : Op1 K os (fun v => rInt1 [v]) intD (rD K) := by
  intro g ρ σ H F x dx d Q hR vx e q
  cases dx with
  | int i =>
    cases e
    cases (show x = .int i from vx)
    exact .inl ⟨i, rfl, q _ H F hR FLe.refl rfl⟩
  | bl b =>
    cases e
    cases (show x = .bl b from vx)
    exact .inr ⟨b, rfl, q _ H F hR FLe.refl rfl⟩
  | _ => cases e
abbrev rAbs1 : List V → Hp → VK → Prop := fun xs H Q => ∃ i, xs = [.int i] ∧ Q (.int (if i < 0 then -i else i)) H
theorem absD_ok : Op1 K os (fun v => rAbs1 [v]) absD (rD K) := by
  intro g ρ σ H F x dx d Q hR vx e q
  cases dx with
  | int i =>
    cases e
    cases (show x = .int i from vx)
    exact ⟨i, rfl, q _ H F hR FLe.refl rfl⟩
  | _ => cases e
abbrev rStr1 : List V → Hp → VK → Prop := fun xs H Q => ∃ i, xs = [.int i] ∧ i.natAbs.log2 < 1920 ∧ Q (.str (toString i)) H
theorem strD_ok : Op1 K os (fun v => rStr1 [v]) strD (rD K) := by
  intro g ρ σ H F x dx d Q hR vx e q
  cases dx with
  | int i =>
    have e' : (if i.natAbs.log2 < 1920 then Res.ok (D.str (toString i)) else .bad) = .ok d := e
    split at e'
    · rename_i hl
      cases e'
      cases (show x = .int i from vx)
      exact ⟨i, rfl, hl, q _ H F hR FLe.refl rfl⟩
    · cases e'
  | _ => cases e
theorem gcdD_ok : Op2 K os (fun v u => rGcd [v, u]) gcdD (rD K) := by
  intro g ρ σ H F x y dx dy d Q hR vx vy e q
  unfold gcdD at e
  split at e
  · rename_i i j
    cases e
    cases (show x = .int i from vx)
    cases (show y = .int j from vy)
    exact ⟨i, j, rfl, q _ H F hR FLe.refl rfl⟩
  · cases e
abbrev rMax2 : List V → Hp → VK → Prop := fun xs H Q => ∃ i j, xs = [.int i, .int j] ∧ Q (.int (if j > i then j else i)) H
abbrev rMin2 : List V → Hp → VK → Prop := fun xs H Q => ∃ i j, xs = [.int i, .int j] ∧ Q (.int (if j < i then j else i)) H
theorem maxD_ok : Op2 K os (fun v u => rMax2 [v, u]) maxD (rD K) := by
  intro g ρ σ H F x y dx dy d Q hR vx vy e q
  unfold maxD at e
  split at e
  · rename_i i j
    cases e
    cases (show x = .int i from vx)
    cases (show y = .int j from vy)
    exact ⟨i, j, rfl, q _ H F hR FLe.refl rfl⟩
  · cases e
theorem minD_ok : Op2 K os (fun v u => rMin2 [v, u]) minD (rD K) := by
  intro g ρ σ H F x y dx dy d Q hR vx vy e q
  unfold minD at e
  split at e
  · rename_i i j
    cases e
    cases (show x = .int i from vx)
    cases (show y = .int j from vy)
    exact ⟨i, j, rfl, q _ H F hR FLe.refl rfl⟩
  · cases e
/-! list(x), dict(x), tuple(x) -/
def listD : D → Res D
  | .lst xs => .ok (.lst xs)
  | .tup xs => .ok (.lst xs)
  | .dic false kvs => .ok (.lst (kvs.map (·.1)))
  | _ => .bad
def dictD : D → Res D
  | .dic false kvs => .ok (.dic false kvs)
  | _ => .bad
def tupleD : D → Res D
  | .lst xs => .ok (.tup xs)
  | .tup xs => .ok (.tup xs)
  | _ => .bad
theorem listD_nx (x : D) : Noex (listD x) := fun e h => by unfold listD at h; split at h <;> cases h
theorem dictD_nx (x : D) : Noex (dictD x) := fun e h => by unfold dictD at h; split at h <;> cases h
theorem tupleD_nx (x : D) : Noex (tupleD x) := fun e h => by unfold tupleD at h; split at h <;> cases h
abbrev rList2 (K : Frag) : List V → Hp → VK → Prop := fun xs H Q => (∃ p ys, xs = [.ref p] ∧ (SqL K H p ys ∨ SqT K H p ys) ∧ ∀ l, H l = none → Q (.ref l) (upd H l (.lst ys))) ∨
  ∃ (a : Addr) (kvs : List (Key × V)), xs = [.ref a] ∧ Rd H a (.dK kvs) ∧ ∀ p, H p = none → Q (.ref p) (upd H p (.lst (kvs.map fun kv => kV kv.1)))
theorem call_list2 (hc : X.calm = true) : CallR X (.type "list") (rList2 X.K) := CallR.or call_list_of (call_listD hc)
theorem RepK.keysR {F : Hp} : ∀ {kvs : List (D × D)} {l : List (Key × V)}, RepK K F kvs l → Reps K F (kvs.map (·.1)) (l.map fun kv => kV kv.1)
  | [], l, h => by
    cases (show l = [] from h)
    rfl
  | (q, d) :: r, l, h => by
    obtain ⟨k', v, m, e1, e2, h3, h4⟩ := h
    subst e1 e2
    exact ⟨_, _, rfl, rep_kD k', RepK.keysR h4⟩
theorem listD_ok : Op1 K os (fun v => rList2 K [v]) listD (rO K os) := by
  intro g ρ σ H F x dx d Q hR vx e q
  have fin : ∀ {xs : List D} {vs : List V} {p : Addr}, H p = none → Reps K F xs vs → d = .lst xs → Q (.ref p) (upd H p (.lst vs)) := fun {xs vs p} hp hr ed => by
    subst ed
    exact q (.ref p) _ F (hR.laid hp) FLe.refl ⟨p, rfl, Free.new hR hp ⟨vs, upd_same, hr⟩⟩
  cases dx with
  | lst xs =>
    cases e
    obtain ⟨a, vs, ea, ha, hr⟩ := vx
    exact .inl ⟨a, vs, by rw [ea], .inl ha, fun p hp => fin hp hr rfl⟩
  | tup xs =>
    cases e
    obtain ⟨a, vs, ea, ha, hr⟩ := vx
    exact .inl ⟨a, vs, by rw [ea], .inr ha, fun p hp => fin hp hr rfl⟩
  | dic t kvs =>
    cases t with
    | false =>
      cases e
      obtain ⟨a, ea, h⟩ := vx
      rcases h with ⟨_, l, hl, hk⟩ | ⟨h, _⟩
      · exact .inr ⟨a, l, by rw [ea], hl, fun p hp => fin hp hk.keysR rfl⟩
      · cases h
    | true => cases e
  | _ => cases e
abbrev rDict1 : List V → Hp → VK → Prop := fun xs H Q => ∃ (a : Addr) (kvs : List (Key × V)), xs = [.ref a] ∧ Rd H a (.dK kvs) ∧ ∀ p, H p = none → Q (.ref p) (upd H p (.dK kvs))
theorem dictD_ok : Op1 K os (fun v => rDict1 [v]) dictD (rO K os) := by
  intro g ρ σ H F x dx d Q hR vx e q
  cases dx with
  | dic t kvs =>
    cases t with
    | false =>
      cases e
      obtain ⟨a, ea, h⟩ := vx
      rcases h with ⟨_, l, hl, hk⟩ | ⟨h, _⟩
      · exact ⟨a, l, by rw [ea], hl, fun p hp => q (.ref p) _ F (hR.laid hp) FLe.refl ⟨p, rfl, Free.new hR hp (.inl ⟨rfl, l, upd_same, hk⟩)⟩⟩
      · cases h
    | true => cases e
  | _ => cases e
abbrev rTuple1 (K : Frag) : List V → Hp → VK → Prop := fun xs H Q => ∃ p ys, xs = [.ref p] ∧ ((SqL K H p ys ∧ ∀ l, H l = none → Q (.ref l) (upd H l (.tup ys))) ∨ (SqT K H p ys ∧ Q (.ref p) H))
theorem tupleL_ok : Op1 K os (fun v => rTuple1 K [v]) (fun d => match d with | .lst xs => .ok (.tup xs) | _ => .bad) (rK K) := by
  intro g ρ σ H F x dx d Q hR vx e q
  cases dx with
  | lst xs =>
    cases e
    obtain ⟨a, vs, ea, ha, hr⟩ := vx
    refine ⟨a, vs, by rw [ea], .inl ⟨ha, fun p hp => ?_⟩⟩
    have le : FLe F (upd F p (.tup vs)) := FLe.upd (hR.none_of hp)
    exact q (.ref p) _ _ (hR.new hp (fun _ _ z => nomatch z)) le ⟨⟨p, vs, rfl, .inl upd_same, Reps.mono le _ _ hr⟩, fun b eb => by cases eb; exact ⟨vs, upd_same⟩⟩
  | _ => cases e
/-! isinstance(x, T) -/
def tyName : D → String
  | .non => "NoneType"
  | .bl _ => "bool"
  | .int _ => "int"
  | .str _ => "str"
  | .lst _ => "list"
  | .tup _ => "tuple"
  | .dic _ _ => "dict"
  | .set _ => "set"
def isiD (T : String) (d : D) : Res D := match kitB (tyName d) T with
  | some b => .ok (.bl b)
  | none => .bad
theorem isiD_nx (T : String) (x : D) : Noex (isiD T x) := fun e h => by unfold isiD at h; split at h <;> cases h
theorem weak3 {α : Type} {A B : α → Prop} {C C' : Prop} (c : C') : (∃ P, A P ∧ B P ∧ C) → ∃ P, A P ∧ B P ∧ C' := fun ⟨P, a, b, _⟩ => ⟨P, a, b, c⟩
theorem no_builtin {H F : Hp} {d : D} {v : V} {u : Value} {K : Frag} (rx : RelV v u) (h : View K F H d v) (id : String) : u ≠ .builtin id := by
  intro z
  subst z
  cases d with
  | non => cases (show v = .non from h); exact nomatch (show Value.builtin id = Value.none from rx)
  | bl b => cases (show v = .bl b from h); exact nomatch (show Value.builtin id = Value.bool b from rx)
  | int b => cases (show v = .int b from h); obtain ⟨t, e⟩ := (show ∃ t, Value.builtin id = Value.int b t from rx); cases e
  | str b => cases (show v = .str b from h); obtain ⟨t, e⟩ := (show ∃ t, Value.builtin id = Value.str b t from rx); cases e
  | lst xs => obtain ⟨a, vs, ea, _⟩ := h; subst ea; exact nomatch (show Value.builtin id = Value.ref a from rx)
  | tup xs => obtain ⟨a, vs, ea, _⟩ := h; subst ea; exact nomatch (show Value.builtin id = Value.ref a from rx)
  | dic t kvs => obtain ⟨a, ea, _⟩ := h; subst ea; exact nomatch (show Value.builtin id = Value.ref a from rx)
  | set _ => exact h.elim
theorem kit_view {pins : List (Addr × Obj)} {σ : L2.St} {H F : Hp} {s : Shared} {d : D} {v : V} {u : Value} (I : Inv X pins σ H s) (rx : RelV v u) (h : View X.K F H d v) : ∃ P : Heap → Prop, PySem.W.KitX X.K u (.type (tyName d)) P ∧ P s.heap ∧ ∀ id : String, u ≠ .builtin id := by
  have nb := no_builtin rx h
  cases d with
  | non => cases (show v = .non from h); exact weak3 nb (kit_of I rx (.base .non))
  | bl b => cases (show v = .bl b from h); exact weak3 nb (kit_of I rx (.base (.bl b)))
  | int b => cases (show v = .int b from h); exact weak3 nb (kit_of I rx (.base (.int b)))
  | str b => cases (show v = .str b from h); exact weak3 nb (kit_of I rx (.base (.str b)))
  | lst xs =>
    obtain ⟨a, vs, ea, ha, _⟩ := h
    subst ea
    rcases ha with (ha | ⟨o, ha⟩) | ⟨o, its, n, hk, hc, _⟩
    · exact weak3 nb (kit_of I rx (.base (.lst ha)))
    · exact weak3 nb (kit_of I rx (.base (.frz ha)))
    · exact weak3 nb (kit_of I rx (.kList hk hc))
  | tup xs =>
    obtain ⟨a, vs, ea, ha, _⟩ := h
    subst ea
    rcases ha with (ha | ⟨o, ha⟩) | ⟨o, its, n, hk, hc, _⟩
    · exact weak3 nb (kit_of I rx (.base (.tup ha)))
    · exact weak3 nb (kit_of I rx (.fTuple ha))
    · exact weak3 nb (kit_of I rx (.kTuple hk hc))
  | dic t kvs =>
    obtain ⟨a, ea, h⟩ := h
    subst ea
    cases (show u = Value.ref a from rx)
    rcases h with ⟨_, l, hl, _⟩ | ⟨_, l, hl, _⟩
    · obtain ⟨_, _, vs, _, o, es, ep, h1, h2, _⟩ := dk_rd I.hok hl
      exact ⟨_, PySem.W.kitx_dict, ⟨o, h1, h2.1⟩, nb⟩
    · obtain ⟨_, _, xs, _, o, es, ep, h1, h2, _⟩ := dt_rd I.hok hl
      exact ⟨_, PySem.W.kitx_dict, ⟨o, h1, h2.1⟩, nb⟩
  | set _ => exact h.elim
def rIsiD (K : Frag) (T : String) : List V → Hp → VK → Prop := fun xs H Q => ∃ F d v b, xs = [v, .ty T] ∧ View K F H d v ∧ kitB (tyName d) T = some b ∧ Q (.bl b) H
theorem call_isiD {T : String} : CallR X (.builtin "isinstance") (rIsiD X.K T) := by
  intro pins s σ H xs us Q I r h
  obtain ⟨F, d, v, b, rfl, hv, hk, q⟩ := h
  obtain ⟨u1, u2, rfl, r1, r2⟩ := vals2 r
  cases (show u2 = Value.type T from r2)
  obtain ⟨P, Z, p, hx⟩ := kit_view I r1 hv
  exact PySem.W.kia_one Z I.kIn p (kit_ty hk) (hx _) fun tk => ⟨.bl b, H, I.tok tk, rfl, q⟩
theorem de_isi {e ty : Expr} {pos p : Pos} {x : Str} {T : String} {fa : EM D} (hs : ∀ {t : TA}, PA X [e, ty] t → PE X (.Call (.Name x p) [e, ty] [] pos) (tCB (rIsiD X.K T) t)) (ha : PE X e (sV X.K E os fa)) (hb : PE X ty (tC (.ty T)))
    (he : starEach [e, ty] X.env = (false, eval e X.env) :: starEach [ty] X.env := by rfl) (he2 : starEach [ty] X.env = (false, eval ty X.env) :: starEach [] X.env := by rfl) :
    PE X (.Call (.Name x p) [e, ty] [] pos) (sD X.K E os (e1 (isiD T) fa)) := PE.weak (hs (pa_cons ha (pa_cons hb pa_nil he2) he)) fun σ H Q ⟨g, ρ, F, hR, w⟩ => by
  refine tG.bind hR w fun d v ρ1 H1 F1 hR1 le1 rx w1 => ?_
  obtain ⟨d', ed, w3⟩ := w1.lift2 (isiD_nx T _)
  unfold isiD at ed
  split at ed
  · rename_i b hb
    cases ed
    exact ⟨F1, d, v, b, rfl, rx, hb, w3 _ H1 F1 hR1 FLe.refl rfl⟩
  · cases ed
/-! all, any, sum -/
def blsOf : List D → Option (List Bool)
  | [] => some []
  | .bl b :: r => (blsOf r).map (b :: ·)
  | _ => none
def intsOf : List D → Option (List Int)
  | [] => some []
  | .int b :: r => (intsOf r).map (b :: ·)
  | _ => none
theorem bls_reps {F : Hp} : ∀ {ds : List D} {bs : List Bool} {vs : List V}, blsOf ds = some bs → Reps K F ds vs → vs = bs.map V.bl
  | [], bs, vs, e, h => by
    cases e
    exact h
  | d :: ds, bs, vs, e, h => by
    obtain ⟨v, r, e1, h1, h2⟩ := h
    subst e1
    cases d with
    | bl b =>
      obtain ⟨cs, q1, q2⟩ := Option.map_eq_some_iff.mp (show (blsOf ds).map (b :: ·) = some bs from e)
      subst q2
      rw [bls_reps q1 h2, show v = .bl b from h1]; rfl
    | _ => cases e
theorem ints_reps {F : Hp} : ∀ {ds : List D} {bs : List Int} {vs : List V}, intsOf ds = some bs → Reps K F ds vs → vs = bs.map V.int
  | [], bs, vs, e, h => by
    cases e
    exact h
  | d :: ds, bs, vs, e, h => by
    obtain ⟨v, r, e1, h1, h2⟩ := h
    subst e1
    cases d with
    | int b =>
      obtain ⟨cs, q1, q2⟩ := Option.map_eq_some_iff.mp (show (intsOf ds).map (b :: ·) = some bs from e)
      subst q2
      rw [ints_reps q1 h2, show v = .int b from h1]; rfl
    | _ => cases e
def allD : D → Res D
  | .lst ds => match blsOf ds with
    | some bs => .ok (.bl (bs.all id))
    | none => .bad
  | _ => .bad
def anyD : D → Res D
  | .lst ds => match blsOf ds with
    | some bs => .ok (.bl (bs.any id))
    | none => .bad
  | _ => .bad
def sumD : D → Res D
  | .lst ds => match intsOf ds with
    | some bs => .ok (.int bs.sum)
    | none => .bad
  | _ => .bad
theorem allD_nx (x : D) : Noex (allD x) := fun e h => by unfold allD at h; split at h <;> first | cases h | (split at h <;> cases h)
theorem anyD_nx (x : D) : Noex (anyD x) := fun e h => by unfold anyD at h; split at h <;> first | cases h | (split at h <;> cases h)
theorem sumD_nx (x : D) : Noex (sumD x) := fun e h => by unfold sumD at h; split at h <;> first | cases h | (split at h <;> cases h)
theorem allD_ok : Op1 K os (fun v => rAll K [v]) allD (rD K) := by
  intro g ρ σ H F x dx d Q hR vx e q
  unfold allD at e
  split at e
  · split at e
    · rename_i bs hb
      cases e
      obtain ⟨a, vs, ea, ha, hr⟩ := vx
      rw [bls_reps hb hr] at ha
      exact ⟨a, bs, by rw [ea], ha, q _ H F hR FLe.refl rfl⟩
    · cases e
  · cases e
theorem anyD_ok : Op1 K os (fun v => rAny K [v]) anyD (rD K) := by
  intro g ρ σ H F x dx d Q hR vx e q
  unfold anyD at e
  split at e
  · split at e
    · rename_i bs hb
      cases e
      obtain ⟨a, vs, ea, ha, hr⟩ := vx
      rw [bls_reps hb hr] at ha
      exact ⟨a, bs, by rw [ea], ha, q _ H F hR FLe.refl rfl⟩
    · cases e
  · cases e
theorem sumD_ok : Op1 K os (fun v => rSum K [v]) sumD (rD K) := by
  intro g ρ σ H F x dx d Q hR vx e q
  unfold sumD at e
  split at e
  · split at e
    · rename_i bs hb
      cases e
      obtain ⟨a, vs, ea, ha, hr⟩ := vx
      rw [ints_reps hb hr] at ha
      exact ⟨a, bs, by rw [ea], ha, q _ H F hR FLe.refl rfl⟩
    · cases e
  · cases e
/-! ranges -/
def rngL (lo hi : Int) : List D := (List.range (hi - lo).toNat).map fun (i : Nat) => D.int (lo + (i : Int))
def rng2D : D → D → Res (List D)
  | .int i, .int j => if -(2 ^ 62) ≤ i ∧ i < 2 ^ 62 ∧ -(2 ^ 62) ≤ j ∧ j < 2 ^ 62 then .ok (rngL i j) else .bad
  | _, _ => .bad
def rng1D : D → Res (List D)
  | .int j => if -(2 ^ 62) ≤ j ∧ j < 2 ^ 62 then .ok (rngL 0 j) else .bad
  | _ => .bad
theorem rng2D_nx (x y : D) : Noex (rng2D x y) := fun e h => by unfold rng2D at h; split at h <;> first | cases h | (split at h <;> cases h)
theorem rng1D_nx (x : D) : Noex (rng1D x) := fun e h => by unfold rng1D at h; split at h <;> first | cases h | (split at h <;> cases h)
variable {tg : Expr} {a b : Expr} {pos p : Pos} {fa fb : EM D}
theorem di_range1 (hs : ∀ {t : TA}, PA X [a] t → PI X tg (.Call (.Name "range" p) [a] [] pos) (iRng1 t)) (ha : PE X a (sV X.K E os fa)) (he : starEach [a] X.env = (false, eval a X.env) :: starEach [] X.env := by rfl) : PI X tg (.Call (.Name "range" p) [a] [] pos) (sI X.K E os (e1 rng1D fa)) :=
  PI.weak (hs (da_one ha he)) fun σ H Q ⟨g, ρ, F, hR, w⟩ => by
    refine tG.bind hR w fun d vs ρ1 H1 F1 hR1 le1 rx w1 => ?_
    obtain ⟨v, ev, vv⟩ := rx
    subst ev
    obtain ⟨ds, ed, w3⟩ := w1.lift2 (rng1D_nx _)
    unfold rng1D at ed
    split at ed
    · rename_i j
      split at ed
      · rename_i hj
        cases ed
        cases (show v = .int j from vv)
        refine ⟨j, rfl, hj.1, hj.2, w3 _ H1 F1 hR1 FLe.refl ?_⟩
        have := ItD.range (K := X.K) (g := g) (F := F1) (lo := 0) (n := j.toNat)
        unfold rngL
        rw [Int.sub_zero]
        exact this
      · cases ed
    · cases ed
theorem di_range2 (hs : ∀ {t : TA}, PA X [a, b] t → PI X tg (.Call (.Name "range" p) [a, b] [] pos) (iRng2 t)) (ha : PE X a (sD X.K E os fa)) (hb : PE X b (sV X.K E os fb)) (he : starEach [a, b] X.env = (false, eval a X.env) :: starEach [b] X.env := by rfl) (he2 : starEach [b] X.env = (false, eval b X.env) :: starEach [] X.env := by rfl) :
    PI X tg (.Call (.Name "range" p) [a, b] [] pos) (sI X.K E os (e2 rng2D fa fb)) :=
  PI.weak (hs (pa_cons ha (pa_cons hb pa_nil he2) he)) fun σ H Q ⟨g, ρ, F, hR, w⟩ => by
    refine tG.bind hR w fun d v ρ1 H1 F1 hR1 le1 rx w1 => ?_
    refine tG.bind hR1 w1 fun d2 v2 ρ2 H2 F2 hR2 le2 rx2 w2 => ?_
    obtain ⟨ds, ed, w3⟩ := w2.lift2 (rng2D_nx _ _)
    unfold rng2D at ed
    split at ed
    · rename_i i j
      split at ed
      · rename_i hj
        cases ed
        cases (show v = .int i from rx)
        cases (show v2 = .int j from rx2)
        exact ⟨i, j, rfl, hj, w3 _ H2 F2 hR2 FLe.refl ItD.range⟩
      · cases ed
    · cases ed
/-- list(range(a, b)) -/
def lrngD (x y : D) : Res D := match rng2D x y with
  | .ok ds => if ds.length ≤ sizeLine then .ok (.lst ds) else .bad
  | _ => .bad
theorem lrngD_nx (x y : D) : Noex (lrngD x y) := fun e h => by
  unfold lrngD at h
  split at h
  · split at h <;> cases h
  · cases h
theorem do_lrng2 {p2 pos2 : Pos} (hc : X.calm = true) (hg : Gl X "list") (hm : X.mg "list" = none) (hg2 : Gl X "range") (hm2 : X.mg "range" = none) (ha : PE X a (sD X.K E os fa)) (hb : PE X b (sV X.K E os fb))
    (na : starEach [a, b] X.env = (false, eval a X.env) :: starEach [b] X.env := by rfl) (nb : starEach [b] X.env = (false, eval b X.env) :: starEach [] X.env := by rfl)
    (nc : starEach [.Call (.Name "range" p2) [a, b] [] pos2] X.env = (false, eval (.Call (.Name "range" p2) [a, b] [] pos2) X.env) :: starEach [] X.env := by rfl)
    (hp : ((backTo pos2 (starEach [b] X.env)).any fun x => x.fst) = false := by rfl) :
    PE X (.Call (.Name "list" p) [.Call (.Name "range" p2) [a, b] [] pos2] [] pos) (sO X.K E os (e2 lrngD fa fb)) := PE.weak (pe_listRg hc hg hm (prg_2 hg2 hm2 ha hb na nb hp) nc) fun σ H Q ⟨g, ρ, F, hR, w⟩ => by
  refine tG.bind hR w fun d v ρ1 H1 F1 hR1 le1 rx w1 => ?_
  refine tG.bind hR1 w1 fun d2 v2 ρ2 H2 F2 hR2 le2 rx2 w2 => ?_
  obtain ⟨d3, ed, w3⟩ := w2.lift2 (lrngD_nx _ _)
  unfold lrngD at ed
  split at ed
  · rename_i ds hds
    split at ed
    · rename_i hl
      cases ed
      unfold rng2D at hds
      split at hds
      · rename_i i j
        split at hds
        · rename_i hj
          cases hds
          cases (show v = .int i from rx)
          cases (show v2 = .int j from rx2)
          unfold rngL at hl
          rw [List.length_map, List.length_range, sizeLine_eq] at hl
          refine ⟨i, j, rfl, rfl, ⟨hj.1, hj.2.1, hj.2.2.1, hj.2.2.2, by omega⟩, fun q hq => ?_⟩
          refine w3 (.ref q) _ F2 (hR2.laid hq) FLe.refl ⟨q, rfl, Free.new hR2 hq ⟨_, upd_same, ?_⟩⟩
          have key : ∀ ns : List Nat, Reps X.K F2 (ns.map fun (n : Nat) => D.int (i + (n : Int))) (ns.map fun (n : Nat) => V.int (i + (n : Int))) := fun ns => by
            induction ns with
            | nil => rfl
            | cons n ns ih => exact ⟨_, _, rfl, rfl, ih⟩
          exact key _
        · cases hds
      · cases hds
    · cases ed
  · cases ed
/-! truth -/
def truD : D → Res Bool
  | .non => .ok false
  | .bl b => .ok b
  | .int i => .ok (i != 0)
  | .str x => if x.length ≤ sizeLine then .ok ((x.length : Int) != 0) else .bad
  | .lst xs => .ok (!xs.isEmpty)
  | .tup xs => .ok (!xs.isEmpty)
  | _ => .bad
theorem truD_nx (x : D) : Noex (truD x) := fun e h => by unfold truD at h; split at h <;> first | cases h | (split at h <;> cases h)
theorem tru_view {H F : Hp} {d : D} {v : V} {b : Bool} (h : View K F H d v) (e : truD d = .ok b) : TruV K v H b := by
  cases d with
  | non => cases (show v = .non from h); cases e; rfl
  | bl c => cases (show v = .bl c from h); cases e; rfl
  | int c => cases (show v = .int c from h); cases e; rfl
  | str c =>
    cases (show v = .str c from h)
    have e' : (if c.length ≤ sizeLine then Res.ok ((c.length : Int) != 0) else .bad) = .ok b := e
    split at e'
    · rename_i hc
      cases e'
      exact ⟨hc, rfl⟩
    · cases e'
  | lst xs =>
    obtain ⟨a, vs, ea, ha, hr⟩ := h
    subst ea
    cases e
    refine .inl ⟨vs, ha, ?_⟩
    have := hr.length
    cases xs <;> cases vs <;> first | rfl | cases this
  | tup xs =>
    obtain ⟨a, vs, ea, ha, hr⟩ := h
    subst ea
    cases e
    refine .inr (.inl ⟨vs, ha, ?_⟩)
    have := hr.length
    cases xs <;> cases vs <;> first | rfl | cases this
  | _ => cases e
theorem dt_tru {e : Expr} (ha : PE X e (sV X.K E os fa)) (he : ∀ whole, isTrue e X.env whole = (do let v ← whole; standAt e.pos; holding [v] (truthy v)) := by intro _; rfl) : PT X e (sB X.K E os (e1 truD fa)) := PT.weak (pt_truth ha he) fun σ H Q ⟨g, ρ, F, hR, w⟩ => by
  refine tG.bind hR w fun d v ρ1 H1 F1 hR1 le1 rx w1 => ?_
  obtain ⟨b, ed, w3⟩ := w1.lift2 (truD_nx _)
  exact ⟨b, tru_view rx ed, w3 b H1 F1 hR1 FLe.refl rfl⟩
end
end DL
/-! DL11: owned lists and dicts are changed; chains; pairs; sorted. -/
namespace DL
open PySem PySem.Spec L2
set_option autoImplicit false
/-! ### stores -/
def setD1 : D → D → D → Res D
  | .lst xs, .int k, d => match ixN xs.length k with
    | some j => .ok (.lst (xs.set j d))
    | none => .bad
  | .dic false kvs, q, d => match asKey q with
    | some _ => if kvs.length < sizeLine then .ok (.dic false (putD kvs q d)) else .bad
    | none => .bad
  | _, _, _ => .bad
def setDT : D → D → D → Res D
  | .dic true kvs, .tup ds, d => match asKeys ds with
    | some _ => if kvs.length < sizeLine then .ok (.dic true (putD kvs (.tup ds) d)) else .bad
    | none => .bad
  | _, _, _ => .bad
/-- the slot's object is changed; what is told -/
def eUpd (i : Nat) (g : D → Res (D × D)) : EM D := fun ρ => match ρ[i]? with
  | some (some x) => match g x with
    | .ok (x', r) => .ok (r, ρ.set i (some x'))
    | .exc e => .exc e
    | .bad => .bad
  | _ => .bad
def res2 (r : Res D) : Res (D × D) := match r with
  | .ok x => .ok (x, .non)
  | .exc e => .exc e
  | .bad => .bad
def sPut (i : Nat) (set : D → D → D → Res D) (fe fi : EM D) : SM := sDrop (eBind fe fun d => eBind (eVar i) fun _ => eBind fi fun q => eUpd i fun x => res2 (set x q d))
def rSet1 : TSet := fun o i v H Q => rSetL o i v H Q ∨ rSetD o i v H Q
theorem PSet.or {X : Cx} {t t' : TSet} (h : PSet X t) (h' : PSet X t') : PSet X (fun o i v H Q => t o i v H Q ∨ t' o i v H Q) := fun pins s σ H o i v ov iv u Q I r1 r2 r3 q => q.elim (h pins s σ H o i v ov iv u Q I r1 r2 r3) (h' pins s σ H o i v ov iv u Q I r1 r2 r3)
def rSetT (K : Frag) : TSet := fun o i v H Q => ∃ a b kvs k xs, o = .ref a ∧ i = .ref b ∧ H a = some (.dT kvs) ∧ SqT K H b (k.map kV) ∧ H b = some (.tup xs) ∧ kvs.length < sizeLine ∧ Q (upd H a (.dT (putK kvs k v)))
theorem set_T {X : Cx} (hu : X.A.units + 1 < cLine) : PSet X (rSetT X.K) := by
  intro pins s σ H o i v ov iv u Q I ro ri rv h
  obtain ⟨a, b, kvs, k, xs, eo, ei, ha, hk, hb, hl, q⟩ := h
  have e : xs = k.map kV := I.tuple_inj (.inl (.inl hb)) hk
  subst e
  exact set_dict hu pins s σ H o i v ov iv u Q I ro ri rv ⟨a, _, eo, by rw [ei]; exact DPut.t ha hb hl, q⟩
theorem set_1 {X : Cx} (hu : X.A.units + 1 < cLine) : PSet X rSet1 := PSet.or set_list (set_dict hu)
section
variable {K : Frag} {g : Gh} {os : List Bool} {ρ : Ev} {σ : L2.St} {H F : Hp}
theorem eUpd_ok {i : Nat} {gm : D → Res (D × D)} {ρ ρ' : Ev} {d : D} (h : eUpd i gm ρ = .ok (d, ρ')) : ∃ x x', ρ[i]? = some (some x) ∧ gm x = .ok (x', d) ∧ ρ' = ρ.set i (some x') := by
  unfold eUpd at h
  split at h
  · rename_i x q
    split at h
    · rename_i x' r q2
      cases h
      exact ⟨x, x', q, q2, rfl⟩
    · cases h
    · cases h
  · cases h
theorem R.set1 (r : R K g os ρ σ H F) {i : Nat} {x x' q d : D} {y v : V} (ho : os[i]? = some true) (h : ρ[i]? = some (some x)) (e : setD1 x q d = .ok x') (hy : View K F H q y) (hv : Rep K F d v) :
    ∃ a o, σ[i]? = some (some (.ref a)) ∧ R K g os (ρ.set i (some x')) σ (upd H a o) F ∧ ∀ Q : Hp → Prop, Q (upd H a o) → rSet1 (.ref a) y v H Q := by
  obtain ⟨a, e1, e2, e3, e4⟩ := r.ow i x ho h
  unfold setD1 at e
  split at e
  · rename_i xs k
    split at e
    · rename_i j hj
      cases e
      obtain ⟨vs, hH, hr⟩ := e3
      cases (show y = .int k from hy)
      refine ⟨a, .lst (vs.set j v), e1, r.write ho h e1 ⟨_, upd_same, Reps.set j hr hv⟩, fun Q q => .inl ⟨a, vs, k, j, rfl, rfl, hH, ?_, q⟩⟩
      rw [hr.length]; exact hj
    · cases e
  · rename_i kvs q0 d0
    split at e
    · rename_i k hk
      split at e
      · rename_i hl
        cases e
        rcases e3 with ⟨_, l, hH, hr⟩ | ⟨z, _⟩
        · have ek := asKey_eq hk
          have ey := key_view hk hy
          subst ey
          refine ⟨a, .dK (putK l k v), e1, r.write ho h e1 (.inl ⟨rfl, _, upd_same, ?_⟩), fun Q q => .inr ⟨a, _, rfl, DPut.k hH (by rw [hr.length]; exact hl), q⟩⟩
          rw [ek]; exact RepK.put hr hv
        · cases z
      · cases e
    · cases e
  · cases e
theorem R.setT (r : R K g os ρ σ H F) {i : Nat} {x x' q d : D} {y v : V} (ho : os[i]? = some true) (h : ρ[i]? = some (some x)) (e : setDT x q d = .ok x') (hy : Rep K F q y) (hy2 : ∀ b, y = .ref b → ∃ xs, H b = some (.tup xs)) (hv : Rep K F d v) :
    ∃ a o, σ[i]? = some (some (.ref a)) ∧ R K g os (ρ.set i (some x')) σ (upd H a o) F ∧ ∀ Q : Hp → Prop, Q (upd H a o) → rSetT K (.ref a) y v H Q := by
  obtain ⟨a, e1, e2, e3, e4⟩ := r.ow i x ho h
  unfold setDT at e
  split at e
  · rename_i kvs ds d0
    split at e
    · rename_i ks hk
      split at e
      · rename_i hl
        cases e
        rcases e3 with ⟨z, _⟩ | ⟨_, l, hH, hr⟩
        · cases z
        · have ek := asKeys_eq hk
          obtain ⟨b, vs, eb, hb, hrb⟩ := hy
          subst eb
          obtain ⟨xs, hxs⟩ := hy2 b rfl
          rw [ek] at hrb
          have e2 := reps_kV hrb
          subst e2
          refine ⟨a, .dT (putK l ks v), e1, r.write ho h e1 (.inr ⟨rfl, _, upd_same, ?_⟩), fun Q q => ⟨a, b, l, ks, xs, rfl, rfl, hH, hb.sq r.sub, hxs, by rw [hr.length]; exact hl, q⟩⟩
          rw [ek]; exact RepT.put hr hv
      · cases e
    · cases e
  · cases e
end
section
variable {X : Cx} {E : XK} {md : Md} {os : List Bool} {a b e c ie : Expr} {st : Stmt} {pos : Pos} {fe fi : EM D} {x : Str} {px : Pos}
def rT {α β : Type} : Gh → Ev → L2.St → Hp → Hp → α → β → Prop := fun _ _ _ _ _ _ _ => True
theorem WS.drop {K : Frag} {os : List Bool} {g : Gh} {σ : L2.St} {F : Hp} {Dn : Ends} {α : Type} {f : EM α} {ρ : Ev} (w : WS K E md os g F Dn (sDrop f ρ)) (hσ : ∀ ρ' H' F', R K g os ρ' σ H' F' → FLe F F' → True) : WG K E os g σ F rT (fun (_ : Unit) H => Dn.nx σ H) (f ρ) := by
  unfold sDrop at w
  cases q : f ρ with
  | ok p =>
    obtain ⟨d, ρ'⟩ := p
    rw [q] at w
    exact fun _ H' F' hR le _ => w σ H' F' hR le
  | exc x => rw [q] at w; exact w
  | bad => rw [q] at w; exact w
theorem WG.upd1 {K : Frag} {E : XK} {os : List Bool} {g : Gh} {σ : L2.St} {F : Hp} {ρ : Ev} {β : Type} {rl : Gh → Ev → L2.St → Hp → Hp → D → β → Prop} {Q : β → Hp → Prop} {i : Nat} {gm : D → Res (D × D)} (hn : ∀ x, Noex (gm x)) (w : WG K E os g σ F rl Q (eUpd i gm ρ)) :
    ∃ x x' d, ρ[i]? = some (some x) ∧ gm x = .ok (x', d) ∧ WG K E os g σ F rl Q (.ok (d, ρ.set i (some x'))) := by
  unfold eUpd at w
  split at w
  · rename_i x q
    split at w
    · rename_i x' r q2
      exact ⟨x, x', r, q, q2, w⟩
    · rename_i e q2
      exact absurd q2 (hn _ _)
    · exact w.elim
  · exact w.elim
theorem res2_nx {r : Res D} (h : Noex r) : Noex (res2 r) := fun e q => by
  unfold res2 at q
  split at q
  · cases q
  · exact h _ rfl
  · cases q
theorem res2_ok {r : Res D} {x d : D} (h : res2 r = .ok (x, d)) : r = .ok x := by
  unfold res2 at h
  split at h <;> cases h
  rfl
theorem setD1_nx (x q d : D) : Noex (setD1 x q d) := fun e h => by
  unfold setD1 at h
  split at h <;> first | cases h | (split at h <;> first | cases h | (split at h <;> cases h))
theorem setDT_nx (x q d : D) : Noex (setDT x q d) := fun e h => by
  unfold setDT at h
  split at h <;> first | cases h | (split at h <;> first | cases h | (split at h <;> cases h))
/-! keys -/
theorem dk_tup {es : List Expr} {x1 : Nat} {fr : EM (List D)} (h : PA X es (sA X.K E os fr)) : PE X (.Tuple es x1 pos) (tG X.K E os (rK X.K) (eL gTup fr)) := PE.weak (pe_tup h) fun σ H Q ⟨g, ρ, F, r, w⟩ => by
  refine tG.bind r w fun ds vs ρ1 H1 F1 hR1 le1 rx w1 => ?_
  obtain ⟨d, ed, w3⟩ := w1.lift2 (gTup_noex _)
  unfold gTup at ed
  split at ed
  · rename_i hl
    cases ed
    refine ⟨by rw [Reps.length rx]; exact hl, fun p hp => ?_⟩
    exact w3 (.ref p) _ _ (hR1.new hp (fun _ _ z => nomatch z)) (FLe.upd (hR1.none_of hp)) ⟨⟨p, vs, rfl, .inl upd_same, Reps.mono (FLe.upd (hR1.none_of hp)) _ _ rx⟩, fun b e => by cases e; exact ⟨vs, upd_same⟩⟩
  · cases ed
theorem dk_var {i : Nat} {x : Str} {g0 : Md} (h : PE X (.Name x pos) (tVar i)) (ho : os[i]? = some false) : PE X (.Name x pos) (fun σ H Q => ∃ g ρ F, R X.K g os ρ σ H F ∧ i ∈ g.kt ∧ WG X.K E os g σ F (rK X.K) Q (eVar i ρ)) := PE.weak h fun σ H Q ⟨g, ρ, F, r, hk, w⟩ => by
  unfold eVar at w
  split at w
  · rename_i d q
    obtain ⟨v, e1, e2⟩ := r.fz i d ho q
    exact ⟨v, e1, w v H F r FLe.refl ⟨e2, fun b e => by subst e; exact r.kt i b hk e1⟩⟩
  · exact w.elim
/-- x[i] = e, x an own list, or an own dict with ints and texts for keys -/
theorem ds_put {i : Nat} (ho : os[i]? = some true) (hx : PE X a (tVar i)) (he : PE X e (sD X.K E os fe)) (hi : PE X ie (sV X.K E os fi)) (hu : X.A.units + 1 < cLine)
    (hs : ∀ {te : TE} {g : TG}, PE X e te → PG X (.Subscript a ie px) g → PS X st (tAsg te g))
    (ha : ∀ v, assign (.Subscript a ie px) X.env v = (do
      let ov ← holding [v] (eval a X.env)
      let iv ← holding [v, ov] (eval ie X.env)
      standAt px
      holding [v, ov, iv] (setItem ov iv v)
      release [v, ov, iv] []) := by intro _; rfl) : PS X st (tS X.K E md os os (sPut i setD1 fe fi)) :=
  PS.weak (hs he (pg_sub hx hi (set_1 hu) ha)) fun σ H Q ⟨g, ρ, F, r, hp, w⟩ => by
    refine tG.bind r (w.drop fun _ _ _ _ _ => trivial) fun d v ρ1 H1 F1 hR1 le1 rv w1 => ?_
    obtain ⟨x0, h0, w2⟩ := w1.var
    obtain ⟨ov, hov, _⟩ := hR1.view h0
    refine ⟨ov, hov, tG.bind hR1 w2 fun q y ρ2 H2 F2 hR2 le2 ry w3 => ?_⟩
    obtain ⟨x1, x', d', h1, e1, w4⟩ := WG.upd1 (fun _ => res2_nx (setD1_nx _ _ _)) w3
    obtain ⟨a, o, q1, q2, q3⟩ := hR2.set1 ho h1 (res2_ok e1) ry (Rep.mono le2 _ _ rv)
    rw [q1] at hov
    cases hov
    exact q3 _ (w4 () _ F2 q2 FLe.refl trivial)
/-- x[i] = e, x an own dict with tuples for keys -/
theorem ds_putT {i : Nat} (ho : os[i]? = some true) (hx : PE X a (tVar i)) (he : PE X e (sD X.K E os fe)) (hi : PE X ie (tG X.K E os (rK X.K) fi)) (hu : X.A.units + 1 < cLine)
    (hs : ∀ {te : TE} {g : TG}, PE X e te → PG X (.Subscript a ie px) g → PS X st (tAsg te g))
    (ha : ∀ v, assign (.Subscript a ie px) X.env v = (do
      let ov ← holding [v] (eval a X.env)
      let iv ← holding [v, ov] (eval ie X.env)
      standAt px
      holding [v, ov, iv] (setItem ov iv v)
      release [v, ov, iv] []) := by intro _; rfl) : PS X st (tS X.K E md os os (sPut i setDT fe fi)) :=
  PS.weak (hs he (pg_sub hx hi (set_T hu) ha)) fun σ H Q ⟨g, ρ, F, r, hp, w⟩ => by
    refine tG.bind r (w.drop fun _ _ _ _ _ => trivial) fun d v ρ1 H1 F1 hR1 le1 rv w1 => ?_
    obtain ⟨x0, h0, w2⟩ := w1.var
    obtain ⟨ov, hov, _⟩ := hR1.view h0
    refine ⟨ov, hov, tG.bind hR1 w2 fun q y ρ2 H2 F2 hR2 le2 ry w3 => ?_⟩
    obtain ⟨x1, x', d', h1, e1, w4⟩ := WG.upd1 (fun _ => res2_nx (setDT_nx _ _ _)) w3
    obtain ⟨a, o, q1, q2, q3⟩ := hR2.setT ho h1 (res2_ok e1) ry.1 ry.2 (Rep.mono le2 _ _ rv)
    rw [q1] at hov
    cases hov
    exact q3 _ (w4 () _ F2 q2 FLe.refl trivial)
end
/-! ### a comprehension over a dict's keys -/
section
variable {X : Cx} {E : XK} {os : List Bool} {tg elt : Expr} {ifs : List Expr} {pos npos : Pos} {x : Str}
def Lkd (σ : L2.St) (H : Hp) (i : Nat) : Prop := ∃ a od u, σ[i]? = some (some (.ref a)) ∧ H a = some (.frz od u)
theorem di_keysL {i : Nat} (hv : PE X (.Name x npos) (tVar i)) (ho : os[i]? = some false) : PI X tg (.Name x npos) (fun σ H Q => Lkd σ H i ∧ sI X.K E os (e1 gKeys (eVar i)) σ H Q) := PI.weak (pi_keys hv) fun σ H Q ⟨⟨a, od, u, hs, hl⟩, g, ρ, F, r, w⟩ => by
  obtain ⟨d, h1, w1⟩ := w.var
  obtain ⟨v, e1, e2⟩ := r.fz i d ho h1
  rw [hs] at e1
  cases e1
  refine ⟨.ref a, hs, a, od, rfl, ?_⟩
  cases d with
  | dic tt kvs =>
    have w2 : ∀ J H' F', R X.K g os ρ σ H' F' → FLe F F' → DL.rI X.K g ρ σ H' F' (kvs.map (·.1)) J → Q J H' := w1
    obtain ⟨a', ea, e2⟩ := e2
    cases ea
    rcases e2 with ⟨_, l, hf, hk⟩ | ⟨_, l, hf, hk⟩
    · rcases r.sub a _ hf with hh | ⟨_, ob, hh⟩ <;> rw [hl] at hh <;> cases hh
      exact .inl ⟨l, hl, w2 _ H F r FLe.refl (ItD.keys (fun os' ρ' σ' H' F' r' le => r.frz_stays hl hf r' le) hk)⟩
    · rcases r.sub a _ hf with hh | ⟨_, ob, hh⟩ <;> rw [hl] at hh <;> cases hh
      exact .inr ⟨l, hl, w2 _ H F r FLe.refl (ItD.keysT (fun os' ρ' σ' H' F' r' le => r.frz_stays hl hf r' le) hk)⟩
  | _ => exact w1.elim
theorem PE.or {e : Expr} {t t' : TE} (h : PE X e t) (h' : PE X e t') : PE X e (fun σ H Q => t σ H Q ∨ t' σ H Q) := ⟨fun pins s σ H Q I q => q.elim (h.run pins s σ H Q I) (h'.run pins s σ H Q I)⟩
theorem WG.lockO {K : Frag} {g : Gh} {σ : L2.St} {F : Hp} {Q : VK} {a : Addr} {u : HO} {od : Obj} (hn : ∀ ob v, (a, ob, v) ∉ g.lk) (hn0 : ∀ ob v, g.H0 a ≠ some (.frz ob v)) : ∀ {r : Res (D × Ev)}, (∀ x, r ≠ .exc x) → WG K E os g σ F (rO K os) Q r →
    WG K E os { g with lk := (a, od, u) :: g.lk } σ F (rO K os) (fun v H' => H' a = some (.frz od u) ∧ Q v (upd H' a u)) r
  | .ok (d, ρ'), _, h => fun b H' F' hR le ⟨p, ep, fr⟩ => by
    obtain ⟨hd, hf⟩ := hR.lock a od u List.mem_cons_self
    have ne : p ≠ a := fun z => by subst z; have := fr.f; rw [hf] at this; cases this
    exact ⟨hd, h b _ F' (hR.unlockd hn hn0) le ⟨p, ep, ⟨fr.f, fr.own.heap (upd_ne ne), fr.h0, fr.ne⟩⟩⟩
  | .exc x, hx, h => absurd rfl (hx x)
  | .bad, _, h => h
theorem eComp_nx {vs : List Nat} {f : EM (List D)} {t : Tgt} {c : EM Bool} {e : EM D} {ρ : Ev} : ∀ x, eComp vs f t c e ρ ≠ .exc x := fun x h => by
  unfold eComp at h
  split at h
  · split at h <;> cases h
  · cases h
theorem do_lcK {i : Nat} {scope : Scope} {own : List (Str × Nat)} {t : Tgt} {c : EM Bool} {e : EM D} {gt : TG} (hc : X.calm = true) (hN : X.N.Nodup) (hv0 : PE X (.Name x npos) (tVar i)) (ho : os[i]? = some false) (ok : BlkOk X.N X.env.scope scope own)
    (hg : ∀ (s : Shared) (H : Hp) (C : Addr) (cl : List (Str × Addr)) (fp : List Addr), PG (X.blk s H scope (compEnvC scope cl C X.env) fp) tg gt)
    (ht : ∀ (s : Shared) (H : Hp) (C : Addr) (cl : List (Str × Addr)) (fp : List Addr), PTs (X.blk s H scope (compEnvC scope cl C X.env) fp) ifs (sB X.K E os c))
    (he : ∀ (s : Shared) (H : Hp) (C : Addr) (cl : List (Str × Addr)) (fp : List Addr), PE (X.blk s H scope (compEnvC scope cl C X.env) fp) elt (sD X.K E os e))
    (hr : RawT X.K os (own.map (·.2)) gt t) (hv : ∀ v ∈ own.map (·.2), os[v]? = some false) (hs : ∀ x', foldedSetIterable (.Name x npos) X.env x' = pure x' := by intro _; rfl) :
    PE X (.ListComp elt [⟨tg, .Name x npos, ifs, 0⟩] scope pos) (sO X.K E os (eComp (own.map (·.2)) (e1 gKeys (eVar i)) t c e)) :=
  PE.weak (PE.or (pe_lock (pe_lc hc hN (di_keysL (E := E) hv0 ho) ok hg ht he hs)) (pe_lc hc hN (di_keysL (E := E) hv0 ho) ok hg ht he hs)) fun σ H Q ⟨g, ρ, F, r, w⟩ => by
    cases q : eVar i ρ with
    | exc x =>
      unfold eVar at q
      split at q <;> cases q
    | bad =>
      unfold eComp e1 eBind at w
      rw [q] at w; exact w.elim
    | ok p =>
      obtain ⟨d, ρ'⟩ := p
      obtain ⟨h1, rfl⟩ := eVar_ok q
      obtain ⟨v, e1', e2⟩ := r.fz i _ ho h1
      cases d with
      | dic tt kvs =>
        obtain ⟨a, ea, e2⟩ := e2
        subst ea
        have go : ∀ u, F a = some u → Mut (some u) → tLockE (tLc (fun σ H Q => Lkd σ H i ∧ sI X.K E os (DL.e1 gKeys (eVar i)) σ H Q) gt (sB X.K E os c) (sD X.K E os e) (own.map (·.2))) σ H Q ∨ tLc (fun σ H Q => Lkd σ H i ∧ sI X.K E os (DL.e1 gKeys (eVar i)) σ H Q) gt (sB X.K E os c) (sD X.K E os e) (own.map (·.2)) σ H Q := fun u hf mu => by
          rcases r.sub a _ hf with hh | ⟨_, od, hh⟩
          · left
            obtain ⟨n1, n2⟩ := r.lock_facts hh hf mu
            exact ⟨a, u, hh, mu, fun od => ⟨⟨a, od, u, e1', upd_same⟩, comp_read hv hr ⟨_, ρ', F, r.lockd od hh hf mu, WG.lockO n1 n2 eComp_nx w⟩⟩⟩
          · right
            exact ⟨⟨a, od, u, e1', hh⟩, comp_read hv hr ⟨g, ρ', F, r, w⟩⟩
        rcases e2 with ⟨_, l, hf, hk⟩ | ⟨_, l, hf, hk⟩
        · exact go _ hf trivial
        · exact go _ hf trivial
      | _ =>
        unfold eComp DL.e1 eBind at w
        rw [q] at w; exact w.elim
end
end DL
/-! DL12: methods, new dicts, chains, pairs, sorted. -/
namespace DL
open PySem PySem.Spec L2
set_option autoImplicit false
section
variable {X : Cx} {E : XK} {md : Md} {os : List Bool} {a b c e : Expr} {es : List Expr} {st : Stmt} {pos apos : Pos} {fa fb fc : EM D} {x : Str}
/-! ### methods of an own list -/
/-- xs.m(e): the list's items, the argument; the new items, what is told -/
def isLst : D → Bool
  | .lst _ => true
  | _ => false
def isDic : D → Bool
  | .dic _ _ => true
  | _ => false
def eMth (i : Nat) (m : List D → D → Res (List D × D)) (f : EM D) : EM D := eBind (eVar i) fun x0 => if isLst x0 = true then (eBind f fun q => eUpd i fun x => match x with
  | .lst xs => (match m xs q with
    | .ok (ys, d) => .ok (.lst ys, d)
    | _ => .bad)
  | _ => .bad) else fun _ => .bad
def eMth0 (i : Nat) (m : List D → Res (List D × D)) : EM D := eUpd i fun x => match x with
  | .lst xs => (match m xs with
    | .ok (ys, d) => .ok (.lst ys, d)
    | _ => .bad)
  | _ => .bad
def appendD (xs : List D) (q : D) : Res (List D × D) := if xs.length < sizeLine then .ok (xs ++ [q], .non) else .bad
def popD (xs : List D) : Res (List D × D) := match xs[xs.length - 1]? with
  | some d => .ok (xs.dropLast, d)
  | none => .bad
def popAtD (xs : List D) (q : D) : Res (List D × D) := match q with
  | .int i => if -(2 ^ 63) ≤ i ∧ i < 2 ^ 63 then (match seqIndex? i xs.length with
    | some k => (match xs[k]? with
      | some d => .ok (xs.eraseIdx k, d)
      | none => .bad)
    | none => .bad) else .bad
  | _ => .bad
def reverseD (xs : List D) : Res (List D × D) := .ok (xs.reverse, .non)
/-- a method's rule by data -/
def MthOk (K : Frag) (r : V → List V → Hp → VK → Prop) (m : List D → D → Res (List D × D)) : Prop := ∀ (F H : Hp) (p : Addr) (xs ys : List D) (vs : List V) (q d : D) (y : V) (Q : VK), H p = some (.lst vs) → Reps K F xs vs → Rep K F q y → m xs q = .ok (ys, d) →
  (∀ ws u, Reps K F ys ws → Rep K F d u → Q u (upd H p (.lst ws))) → r (.ref p) [y] H Q
def MthOk0 (K : Frag) (r : V → List V → Hp → VK → Prop) (m : List D → Res (List D × D)) : Prop := ∀ (F H : Hp) (p : Addr) (xs ys : List D) (vs : List V) (d : D) (Q : VK), H p = some (.lst vs) → Reps K F xs vs → m xs = .ok (ys, d) →
  (∀ ws u, Reps K F ys ws → Rep K F d u → Q u (upd H p (.lst ws))) → r (.ref p) [] H Q
theorem append_ok {K : Frag} : MthOk K rAppend appendD := fun F H p xs ys vs q d y Q hp hr hy e h => by
  unfold appendD at e
  split at e
  · cases e
    exact ⟨p, vs, y, rfl, rfl, hp, by rw [hr.length]; assumption, h _ _ (hr.append (.one hy)) rfl⟩
  · cases e
theorem dropLast_reps {K : Frag} {F : Hp} {xs : List D} {vs : List V} (h : Reps K F xs vs) : Reps K F xs.dropLast vs.dropLast := by
  rw [List.dropLast_eq_take, List.dropLast_eq_take, h.length]
  exact h.take _
theorem pop_ok {K : Frag} : MthOk0 K rPop popD := fun F H p xs ys vs d Q hp hr e h => by
  unfold popD at e
  split at e
  · rename_i z hz
    cases e
    obtain ⟨v, hv, rv⟩ := hr.get hz
    exact ⟨p, vs, v, rfl, rfl, hp, by rw [hr.length]; exact hv, h _ _ (dropLast_reps hr) rv⟩
  · cases e
theorem popAt_ok {K : Frag} : MthOk K rPopAt popAtD := fun F H p xs ys vs q d y Q hp hr hy e h => by
  unfold popAtD at e
  split at e
  · rename_i i
    split at e
    · rename_i hi
      split at e
      · rename_i k hk
        split at e
        · rename_i z hz
          cases e
          obtain ⟨v, hv, rv⟩ := hr.get hz
          cases (show y = .int i from hy)
          exact ⟨p, vs, i, k, v, rfl, rfl, hp, hi.1, hi.2, by rw [hr.length]; exact hk, hv, h _ _ (hr.eraseIdx k) rv⟩
        · cases e
      · cases e
    · cases e
  · cases e
theorem reverse_ok {K : Frag} : MthOk0 K rReverse reverseD := fun F H p xs ys vs d Q hp hr e h => by
  cases e
  exact ⟨p, vs, rfl, rfl, hp, h _ _ hr.reverse rfl⟩
theorem mth_nx {m : List D → D → Res (List D × D)} {q x : D} : Noex (match x with
  | .lst xs => (match m xs q with
    | .ok (ys, d) => Res.ok (D.lst ys, d)
    | _ => .bad)
  | _ => .bad) := fun e h => by
  split at h
  · split at h <;> cases h
  · cases h
theorem mth_nx0 {m : List D → Res (List D × D)} {x : D} : Noex (match x with
  | .lst xs => (match m xs with
    | .ok (ys, d) => Res.ok (D.lst ys, d)
    | _ => .bad)
  | _ => .bad) := fun e h => by
  split at h
  · split at h <;> cases h
  · cases h
theorem de_mth {i : Nat} {name : Str} {id : String} {r : V → List V → Hp → VK → Prop} {m : List D → D → Res (List D × D)} (ho : os[i]? = some true) (hx : PE X a (tVar i)) (he : PE X e (sD X.K E os fa)) (hm : MthOk X.K r m)
    (hs : ∀ {t : TA}, PA X [e] t → PE X (.Call (.Attribute a name apos) [e] [] pos) (tBM X.K "list" r (tVar i) t)) (hs2 : starEach [e] X.env = (false, eval e X.env) :: starEach [] X.env := by rfl) :
    PE X (.Call (.Attribute a name apos) [e] [] pos) (sD X.K E os (eMth i m fa)) := PE.weak (hs (pa_cons he pa_nil hs2)) fun σ H Q ⟨g, ρ, F, r0, w⟩ => by
  obtain ⟨x0, h0, w1⟩ := w.var
  obtain ⟨a0, hov, _, own0, _⟩ := r0.ow i x0 ho h0
  cases x0 with
  | lst xs0 =>
    rw [if_pos (show isLst (D.lst xs0) = true from rfl)] at w1
    obtain ⟨vs0, hvs0, _⟩ := own0
    refine ⟨.ref a0, hov, .inl ⟨rfl, vs0, .inl (.inl hvs0)⟩, tG.bind r0 w1 fun q y ρ2 H2 F2 hR2 le2 ry w3 => ?_⟩
    obtain ⟨x1, x', d', h1, e1, w4⟩ := WG.upd1 (fun _ => mth_nx) w3
    split at e1
    · rename_i xs
      split at e1
      · rename_i ys d hm'
        cases e1
        obtain ⟨a1, q1, q2, ⟨vs, q3, q4⟩, _⟩ := hR2.ow i _ ho h1
        rw [hov] at q1
        cases q1
        refine hm F2 H2 a0 xs ys vs q d' y Q q3 q4 ry hm' fun ws u k1 k2 => ?_
        exact w4 u _ F2 (hR2.write ho h1 hov ⟨ws, upd_same, k1⟩) FLe.refl k2
      · cases e1
    · cases e1
  | _ => exact w1.elim
theorem de_mth0 {i : Nat} {name : Str} {id : String} {r : V → List V → Hp → VK → Prop} {m : List D → Res (List D × D)} (ho : os[i]? = some true) (hx : PE X a (tVar i)) (hm : MthOk0 X.K r m)
    (hs : PE X (.Call (.Attribute a name apos) [] [] pos) (tBM0 X.K "list" r (tVar i))) :
    PE X (.Call (.Attribute a name apos) [] [] pos) (sD X.K E os (eMth0 i m)) := PE.weak hs fun σ H Q ⟨g, ρ, F, r0, w⟩ => by
  obtain ⟨x1, x', d', h1, e1, w4⟩ := WG.upd1 (fun _ => mth_nx0) w
  split at e1
  · rename_i xs
    split at e1
    · rename_i ys d hm'
      cases e1
      obtain ⟨a1, q1, q2, ⟨vs, q3, q4⟩, _⟩ := r0.ow i _ ho h1
      refine ⟨.ref a1, q1, .inl ⟨rfl, vs, .inl (.inl q3)⟩, hm F H a1 xs ys vs d' Q q3 q4 hm' fun ws u k1 k2 => ?_⟩
      exact w4 u _ F (r0.write ho h1 q1 ⟨ws, upd_same, k1⟩) FLe.refl k2
    · cases e1
  · cases e1
/-! ### d.pop(k) of an own dict with ints and texts for keys -/
def dpopD (x q : D) : Res (D × D) := match x with
  | .dic false kvs => (match asKey q with
    | some _ => (match lookD kvs q with
      | some d => .ok (.dic false (dropD kvs q), d)
      | none => .bad)
    | none => .bad)
  | _ => .bad
theorem dpopD_nx (x q : D) : Noex (dpopD x q) := fun e h => by
  unfold dpopD at h
  split at h
  · split at h
    · split at h <;> cases h
    · cases h
  · cases h
def eDPop (i : Nat) (f : EM D) : EM D := eBind (eVar i) fun x0 => if isDic x0 = true then (eBind f fun q => eUpd i fun x => dpopD x q) else fun _ => .bad
theorem de_dpop {i : Nat} (ho : os[i]? = some true) (hx : PE X a (tVar i)) (he : PE X e (sV X.K E os fa)) (m : M1 X a "pop" apos e pos) : PE X (.Call (.Attribute a "pop" apos) [e] [] pos) (sD X.K E os (eDPop i fa)) := PE.weak (pe_dpop1 hx he m) fun σ H Q ⟨g, ρ, F, r0, w⟩ => by
  obtain ⟨x0, h0, w1⟩ := w.var
  obtain ⟨a0, hov, _, own0, _⟩ := r0.ow i x0 ho h0
  cases x0 with
  | dic t0 kvs0 =>
    rw [if_pos (show isDic (D.dic t0 kvs0) = true from rfl)] at w1
    have isd : IsD H a0 := by
      rcases own0 with ⟨_, l, z, _⟩ | ⟨_, l, z, _⟩
      · exact .inl ⟨l, .inl z⟩
      · exact .inr ⟨l, .inl z⟩
    refine ⟨.ref a0, hov, a0, rfl, isd, tG.bind r0 w1 fun q y ρ2 H2 F2 hR2 le2 ry w3 => ?_⟩
    obtain ⟨x1, x', d', h1, e1, w4⟩ := WG.upd1 (fun _ => dpopD_nx _ _) w3
    unfold dpopD at e1
    split at e1
    · rename_i kvs
      split at e1
      · rename_i k hk
        split at e1
        · rename_i d hd
          cases e1
          obtain ⟨a1, q1, q2, q3, _⟩ := hR2.ow i _ ho h1
          rw [hov] at q1
          cases q1
          rcases q3 with ⟨_, l, hH, hr⟩ | ⟨z, _⟩
          · have ek := asKey_eq hk
            have ey := key_view hk ry
            rw [ek] at hd
            rcases hr.look (k := k) with ⟨z, _⟩ | ⟨d2, v2, z1, z2, z3⟩
            · rw [hd] at z; cases z
            · rw [hd] at z1
              cases z1
              refine ⟨l, k, v2, hH, ey, z2, w4 v2 _ F2 (hR2.write ho h1 hov (.inl ⟨rfl, _, upd_same, ?_⟩)) FLe.refl z3⟩
              rw [ek]; exact hr.drop
          · cases z
        · cases e1
      · cases e1
    · cases e1
  | _ => exact w1.elim
/-! ### new dicts -/
theorem do_newK : PE X (.Dict [] [] pos) (sO X.K E os (eRet (.dic false []))) := PE.weak pe_dnewK fun σ H Q ⟨g, ρ, F, r0, w⟩ => fun p hp =>
  w (.ref p) _ F (r0.laid hp) FLe.refl ⟨p, rfl, Free.new r0 hp (.inl ⟨rfl, [], upd_same, rfl⟩)⟩
theorem do_newT : PE X (.Dict [] [] pos) (sO X.K E os (eRet (.dic true []))) := PE.weak pe_dnewT fun σ H Q ⟨g, ρ, F, r0, w⟩ => fun p hp =>
  w (.ref p) _ F (r0.laid hp) FLe.refl ⟨p, rfl, Free.new r0 hp (.inr ⟨rfl, [], upd_same, rfl⟩)⟩
/-! ### a op b op c -/
def eChain {α : Type} (g1 : D → D → Res Bool) (g2 : D → D → Res Bool) (fa fb fc : EM D) : EM Bool := eBind fa fun x => eBind fb fun y => eBind (eLift (g1 x y)) fun k => if k = true then (eBind fc fun z => eLift (g2 y z)) else eRet false
theorem dt_chain {op op' : CmpOp} {r r' : R2} {g1 g2 : D → D → Res Bool} (ho : OpR X (compareOp op) r) (ho' : OpR X (compareOp op') r') (hg : Op2B X.K os r g1) (hg' : Op2B X.K os r' g2) (hn : ∀ x y, Noex (g1 x y)) (hn' : ∀ x y, Noex (g2 x y)) (ha : PE X a (sD X.K E os fa)) (hb : PE X b (sD X.K E os fb)) (hc : PE X c (sV X.K E os fc))
    (hm : lastMarks [op, op'] [b, c] = false := by with_unfolding_all rfl) : PT X (.Compare a [op, op'] [b, c] pos) (sB X.K E os (eChain (α := Unit) g1 g2 fa fb fc)) := PT.weak (pt_chain ho ho' ha hb hc hm) fun σ H Q ⟨g, ρ, F, hR, w⟩ => by
  refine tG.bind hR w fun dx x ρ1 H1 F1 hR1 le1 rx w1 => ?_
  refine tG.bind hR1 w1 fun dy y ρ2 H2 F2 hR2 le2 ry w2 => ?_
  have w2' : WG X.K E os g σ F2 rB Q ((eBind (eLift (g1 dx dy)) fun k => if k = true then (eBind fc fun z => eLift (g2 dy z)) else eRet false) ρ2) := w2
  cases q : g1 dx dy with
  | exc e => exact absurd q (hn _ _ e)
  | bad =>
    unfold eBind eLift at w2'
    rw [q] at w2'
    exact w2'.elim
  | ok k =>
    unfold eBind eLift at w2'
    rw [q] at w2'
    refine hg g ρ2 σ H2 F2 x y dx dy k _ hR2 (Rep.view hR2.sub (Rep.mono le2 _ _ rx)) (Rep.view hR2.sub ry) q fun H' F' hR3 le3 => ⟨k, rfl, ?_⟩
    cases k with
    | false =>
      rw [if_neg (by decide)]
      exact ⟨false, rfl, (show WG X.K E os g σ F2 rB Q (.ok (false, ρ2)) from w2') false H' F' hR3 le3 rfl⟩
    | true =>
      rw [if_pos rfl]
      have w3 : WG X.K E os g σ F' rB Q ((eBind fc fun z => eLift (g2 dy z)) ρ2) := WG.mono le3 w2'
      refine tG.bind hR3 w3 fun dz z ρ4 H4 F4 hR4 le4 rz w4 => ?_
      obtain ⟨d, ed, w5⟩ := w4.lift2 (hn' _ _)
      exact hg' g ρ4 σ H4 F4 y z dy dz d _ hR4 (Rep.view hR4.sub (Rep.mono (le3.trans le4) _ _ ry)) rz ed fun H' F' q l => ⟨_, rfl, w5 _ H' F' q l rfl⟩
/-! ### a, b = x, y -/
def sPar (i j : Nat) (f : EM (List D)) : SM := fun ρ => match f ρ with
  | .ok ([d, e], ρ') => .ok (.nx, (ρ'.set i (some d)).set j (some e))
  | .ok _ => .bad
  | .exc x => .exc x
  | .bad => .bad
theorem ds_par {i j : Nat} {f : EM (List D)} (hs : ∀ {t : TA}, PA X [a, b] t → PS X st (tPar i j t)) (ha : PA X [a, b] (sA X.K E os f)) (hi : i ∉ md.pp) (hj : j ∉ md.pp) (hki : i ∉ md.kt) (hkj : j ∉ md.kt) : PS X st (tS X.K E md os ((os.set i false).set j false) (sPar i j f)) := PS.weak (hs ha) fun σ H Q ⟨g, ρ, F, r, hp, w⟩ => by
  refine ⟨g, ρ, F, r, ?_⟩
  unfold sPar at w
  cases q : f ρ with
  | ok p =>
    obtain ⟨ds, ρ'⟩ := p
    rw [q] at w
    intro vs H' F' hR le hv
    cases ds with
    | nil => exact w.elim
    | cons d ds =>
      cases ds with
      | nil => exact w.elim
      | cons d2 ds =>
        cases ds with
        | nil =>
          obtain ⟨v, r1, e1, h1, h2⟩ := hv
          obtain ⟨v2, r2, e2, h3, h4⟩ := h2
          cases (show r2 = [] from h4)
          subst e2
          subst e1
          exact ⟨v, v2, rfl, w _ H' F' ((hR.put (pin_not hp hi) (fun z => absurd z (kt_not hp hki)) h1).put (pin_not hp hj) (fun z => absurd z (kt_not hp hkj)) h3) le⟩
        | cons _ _ => exact w.elim
  | exc x => rw [q] at w; exact w
  | bad => rw [q] at w; exact w
/-! ### sorted, ints -/
def intSort (l : List Int) : List Int := l.mergeSort fun a b => decide (a ≤ b)
theorem intSort_uniq {l l' : List Int} (p : l'.Perm l) (s : l'.Pairwise (· ≤ ·)) : l' = intSort l := by
  have h1 : (intSort l).Perm l := List.mergeSort_perm _ _
  have h2 : (intSort l).Pairwise fun a b => decide (a ≤ b) = true := List.pairwise_mergeSort (fun a b c h k => by simp at h k ⊢; omega) (fun a b => by simp; omega) l
  have h3 : (intSort l).Pairwise (· ≤ ·) := h2.imp fun h => by simpa using h
  exact List.Perm.eq_of_pairwise (fun a b _ _ h k => by omega) s h3 (p.trans h1.symm)
def sortedI (d : D) : Res D := match d with
  | .lst xs => (match intsOf xs with
    | some ns => if ns.length < 64 then .ok (.lst ((intSort ns).map D.int)) else .bad
    | none => .bad)
  | .dic false kvs => (match intsOf (kvs.map (·.1)) with
    | some ns => if ns.length < 64 then .ok (.lst ((intSort ns).map D.int)) else .bad
    | none => .bad)
  | _ => .bad
theorem sortedI_nx (d : D) : Noex (sortedI d) := fun e h => by
  unfold sortedI at h
  split at h <;> first | cases h | (split at h <;> first | cases h | (split at h <;> cases h))
def rSortDI : List V → Hp → VK → Prop := fun xs H Q => ∃ (a : Addr) (kvs : List (Key × V)) (ks : List Int), xs = [.ref a] ∧ Rd H a (.dK kvs) ∧ kvs.map (·.1) = ks.map Sum.inl ∧ ks.length < 64 ∧
    ∀ (ys : List Int) (p : Addr), ys.Perm ks → ys.Pairwise (· ≤ ·) → H p = none → Q (.ref p) (upd H p (.lst (ys.map V.int)))
def rSortI (K : Frag) : List V → Hp → VK → Prop := fun xs H Q => rSorted K xs H Q ∨ rSortDI xs H Q
theorem call_sortI (hc : X.calm = true) : CallR X (.builtin "sorted") (rSortI X.K) := CallR.or cr_sorted (call_sortedDI hc)
theorem keys_ints {K : Frag} {F : Hp} : ∀ {kvs : List (D × D)} {l : List (Key × V)} {ns : List Int}, RepK K F kvs l → intsOf (kvs.map (·.1)) = some ns → l.map (·.1) = ns.map Sum.inl
  | [], l, ns, h, e => by
    cases (show l = [] from h)
    cases e
    rfl
  | (k, d) :: r, l, ns, h, e => by
    obtain ⟨k', v, r', e1, e2, _, h4⟩ := h
    subst e1
    subst e2
    cases k' with
    | inl i =>
      have e' : (intsOf (r.map (·.1))).map (i :: ·) = some ns := e
      obtain ⟨l, hl, el⟩ := Option.map_eq_some_iff.mp e'
      subst el
      rw [List.map_cons, List.map_cons, keys_ints h4 hl]
    | inr x => cases e
theorem sortedI_ok {K : Frag} : Op1 K os (fun v => rSortI K [v]) sortedI (rO K os) := by
  intro g ρ σ H F x dx d Q hR vx e q
  have fin : ∀ (ns ns' : List Int) (p : Addr), ns'.Perm ns → ns'.Pairwise (· ≤ ·) → H p = none → d = .lst ((intSort ns).map D.int) → Q (.ref p) (upd H p (.lst (ns'.map V.int))) := fun ns ns' p h1 h2 h3 h4 => by
    subst h4
    rw [intSort_uniq h1 h2]
    exact q (.ref p) _ F (hR.laid h3) FLe.refl ⟨p, rfl, Free.new hR h3 ⟨_, upd_same, Reps.ints⟩⟩
  unfold sortedI at e
  split at e
  · rename_i xs
    split at e
    · rename_i ns hns
      split at e
      · rename_i hl
        cases e
        obtain ⟨a, vs, ea, ha, hr⟩ := vx
        have := ints_reps hns hr
        subst this
        exact .inl ⟨a, ns, by rw [ea], ha, hl, fun ns' p h1 h2 h3 => fin ns ns' p h1 h2 h3 rfl⟩
      · cases e
    · cases e
  · rename_i kvs
    split at e
    · rename_i ns hns
      split at e
      · rename_i hl
        cases e
        obtain ⟨a, ea, h⟩ := vx
        rcases h with ⟨_, l, ha, hk⟩ | ⟨z, _⟩
        · exact .inr ⟨a, l, ns, by rw [ea], ha, keys_ints hk hns, hl, fun ns' p h1 h2 h3 => fin ns ns' p h1 h2 h3 rfl⟩
        · cases z
      · cases e
    · cases e
  · cases e
end
end DL
/-! DL13: what a generated proof rests on. -/
namespace DL
open PySem PySem.Spec L2
set_option autoImplicit false
/-- the top as the head tells it -/
structure Base (fa : List He.Fa) (fn : List He.DefD) (ex : Frag → Bool) (K : Frag) (mg : Str → Option Value) : Prop where
  h : ∃ h, K.In h ∧ h.Ns mainGlobals mg
  c : He.SaysD fa fn K
  e : ex K = true
/-- a def of the top keeps its promise -/
def Ok (P : Program) (w : World) (K : Frag) (mg : Str → Option Value) (base : Heap) (x : Str) (k : Nat) (ps : List Str) (as : List Bool) (rtm : Bool) (m : List D → Res (D × List D)) : Prop :=
  ∃ f fd, mg x = some (.ref f) ∧ PySem.W.keepIn K (.ref f) = true ∧ Binds K fd ps [] ∧ FnOk P w K mg base CX0 k f fd ps (spD K as rtm m)
def mkD (x : Str) (st : Stmt) : He.DefD := ⟨(x, none), x, x, defArgs st, defBody st, defScope st, [], []⟩
section
variable {P : Program} {w : World} {K : Frag} {mg : Str → Option Value} {base : Heap} {fa : List He.Fa} {fn : List He.DefD} {ex : Frag → Bool} {x : Str} {k : Nat} {ps : List Str} {as : List Bool} {rtm : Bool} {m : List D → Res (D × List D)}
theorem Base.free (c : Base fa fn ex K mg) (i : Nat) (h : fa[i]? = some (.free x)) : mg x = none := let ⟨_, X, G⟩ := c.h; He.free_ok X G (c.c.fact i h)
theorem Base.glo (c : Base fa fn ex K mg) (i : Nat) (h : fa[i]? = some (.glo x)) : mg x = some (.ref (He.ga K x)) := let ⟨_, X, G⟩ := c.h; He.glo_ok X G (c.c.fact i h)
theorem Base.bfun (c : Base fa fn ex K mg) {v : Value} (h : ∀ K, ex K = true → He.eqO (PySem.W.nsIn K mainGlobals x) (some (some v)) = true) : mg x = some v := let ⟨_, X, G⟩ := c.h; PySem.W.mg_of X G (He.eqO_ok (h K c.e))
theorem mkOk (c : Base fa fn ex K mg) (i j : Nat) {st : Stmt} (hd : fn[i]? = some (mkD x st)) (hj : fa[j]? = some (.glo x))
    (hb : ∀ (kV doc pm : Value) (an : Option Addr) (cdv ct : Value) (us : List Value), us.length = ps.length → bindArgs (PySem.W.fnOf x x (defArgs st) (defBody st) (defScope st) .none kV doc pm an cdv ct) ⟨us, []⟩ = pure (ps.zip us))
    (hf : ∀ {f fd}, FunD K x x (defArgs st) (defBody st) (defScope st) [] [] f fd → FnOk P w K mg base CX0 k f fd ps (spD K as rtm m)) : Ok P w K mg base x k ps as rtm m := by
  obtain ⟨fd, F⟩ := c.c.def_ i hd
  have F' : FunD K x x (defArgs st) (defBody st) (defScope st) [] [] (He.ga K x) fd := F
  exact ⟨He.ga K x, fd, c.glo j hj, F'.kp, F'.bindsN hb, hf F'⟩
theorem mkOk0 (c : Base fa fn ex K mg) (i j : Nat) {st : Stmt} (hd : fn[i]? = some (mkD x st)) (hj : fa[j]? = some (.glo x)) {N : List Str} (S : FnScope N ps (defScope st)) (hps : as.length = ps.length)
    (hb : ∀ (kV doc pm : Value) (an : Option Addr) (cdv ct : Value) (us : List Value), us.length = ps.length → bindArgs (PySem.W.fnOf x x (defArgs st) (defBody st) (defScope st) .none kV doc pm an cdv ct) ⟨us, []⟩ = pure (ps.zip us)) : Ok P w K mg base x (k + 1) ps as rtm (fun _ => .bad) :=
  mkOk c i j hd hj hb fun F => F.ok S (fun vs H Q E h => by
    obtain ⟨F, ds, ha, _⟩ := h
    rw [ha.l2, hps]) fun cdv A outer s H vs Q E hr h => by
    obtain ⟨F, ds, ha, hq⟩ := h
    exact hq.elim
def kOk (ks : List (Option Nat)) (os : List Bool) : Bool := ks.all fun o => match o with
  | some i => os[i]? == some true
  | none => true
theorem kOk_own {ks : List (Option Nat)} {os : List Bool} (h : kOk ks os = true) : ∀ i, some i ∈ ks → os[i]? = some true := fun i hi => by
  have := List.all_eq_true.mp h _ hi
  simpa using this
end
section
variable {X : Cx} {E : XK} {os : List Bool} {e : Expr} {es : List Expr} {pos p : Pos} {fa : EM D} {fr : EM (List D)} {ks : List (Option Nat)} {k k' : Nat} {ps : List Str} {m : List D → Res (D × List D)} {x : Str} {as : List Bool} {md : Md} {st : Stmt}
theorem dcall (h : Ok X.prog X.w X.K X.mg X.base x k ps as false m) (has : as = ks.map Option.isSome) (hr : Room k' X.A) (hle : k ≤ k') (hg : Gl X x)
    (ha : PA X (e :: es) (sC X.K E os ks fr)) (ho : kOk ks os = true) (hn : (ks.filterMap id).Nodup) (hdb : (x == ("__debug__" : Str)) = false := by decide) (he : starEach (e :: es) X.env = (false, eval e X.env) :: starEach es X.env := by rfl) (hpl : (backTo pos (starEach es X.env)).any (·.1) = false := by rfl) :
    PE X (.Call (.Name x p) (e :: es) [] pos) (sD X.K E os (eCall ks m fr)) := let ⟨f, fd, h1, h2, h3, h4⟩ := h
  de_call h4 has (hr.mono hle) hg h1 h2 h3 ha (kOk_own ho) hn hdb he hpl
theorem ocall (h : Ok X.prog X.w X.K X.mg X.base x k ps as true m) (has : as = ks.map Option.isSome) (hr : Room k' X.A) (hle : k ≤ k') (hg : Gl X x)
    (ha : PA X (e :: es) (sC X.K E os ks fr)) (ho : kOk ks os = true) (hn : (ks.filterMap id).Nodup) (hdb : (x == ("__debug__" : Str)) = false := by decide) (he : starEach (e :: es) X.env = (false, eval e X.env) :: starEach es X.env := by rfl) (hpl : (backTo pos (starEach es X.env)).any (·.1) = false := by rfl) :
    PE X (.Call (.Name x p) (e :: es) [] pos) (sO X.K E os (eCall ks m fr)) := let ⟨f, fd, h1, h2, h3, h4⟩ := h
  do_call h4 has (hr.mono hle) hg h1 h2 h3 ha (kOk_own ho) hn hdb he hpl
theorem hr_cls2 {k : Nat} {A : Around} (hr : Room k A) : A.units + 64 < cLine := by have := hr.un; omega
theorem hr_cls {k : Nat} {A : Around} (hr : Room k A) : A.units + 1 < cLine := by have := hr.un; omega
/-- y = [..]: the target is stored within -/
theorem ds_setW {i : Nat} {te : TE} (hs : PS X st (tAsg te (gName i))) (hw : ∀ σ H Q, sO X.K E os fa σ H Q → te σ H Q) (hi : i ∉ md.pp) (hk : i ∉ md.kt) : PS X st (tS X.K E md os (os.set i true) (sSet i fa)) := PS.weak hs fun σ H Q ⟨g, ρ, F, r, hp, w⟩ => by
  refine hw σ H _ ⟨g, ρ, F, r, ?_⟩
  unfold sSet at w
  cases q : fa ρ with
  | ok p =>
    obtain ⟨d, ρ'⟩ := p
    rw [q] at w
    intro v H' F' hR le ⟨a, ea, fr⟩
    subst ea
    exact w _ H' F' (hR.own (pin_not hp hi) (kt_not hp hk) fr.f fr.own fr.h0 fun j e _ h1 h2 => fr.ne j e h1 h2) le
  | exc x => rw [q] at w; exact w
  | bad => rw [q] at w; exact w
theorem ds_setW0 {i : Nat} {te : TE} (hs : PS X st (tAsg te (gName i))) (hw : ∀ σ H Q, sO X.K E os fa σ H Q → te σ H Q) (hi : i ∉ md.pp) (hk : i ∉ md.kt) : PS X st (tS X.K E md os (os.set i false) (sSet i fa)) := PS.weak (ds_setW hs hw hi hk) fun σ H Q ⟨g, ρ, F, r, hp, w⟩ => by
  refine ⟨g, ρ, F, r, hp, ?_⟩
  unfold sSet at w ⊢
  cases q : fa ρ with
  | ok p =>
    obtain ⟨d, ρ'⟩ := p
    rw [q] at w
    intro σ' H' F' hR le
    obtain ⟨F2, r2, le2⟩ := hR.freeze i (pin_not hp hi)
    rw [List.set_set] at r2
    exact w σ' H' F2 r2 (le.trans le2)
  | exc x => rw [q] at w; exact w
  | bad => rw [q] at w; exact w
end
/-! ### walks over what may be a dict -/
def forA (i : Nat) (t : Tgt) (b : SM) : SM := fun ρ => match ρ[i]? with
  | some (some (.dic _ _)) => noX (sFor (e1 gKeys (eVar i)) t b) ρ
  | _ => sFor (e1 gItems (eVar i)) t b ρ
def eCompA (vs : List Nat) (i : Nat) (t : Tgt) (c : EM Bool) (e : EM D) : EM D := fun ρ => match ρ[i]? with
  | some (some (.dic _ _)) => eComp vs (e1 gKeys (eVar i)) t c e ρ
  | _ => eComp vs (e1 gItems (eVar i)) t c e ρ
section
variable {X : Cx} {E : XK} {md : Md} {os os1 : List Bool} {tg elt : Expr} {body : List Stmt} {ifs : List Expr} {pos npos : Pos} {t : Tgt} {b : SM} {x : Str}
theorem ds_forA {i : Nat} (hp : PassesOwn (model X.prog X.w) X.A X.env X.xe) (hc : X.calm = true) (hv : PE X (.Name x npos) (tVar i)) (ho : os[i]? = some false) (hg : PG X tg (tT X.K md os os1 t)) (hb : PSs X body (tS X.K E { md with ol := os } os1 os b))
    (hs : ∀ x', foldedSetIterable (.Name x npos) X.env x' = pure x' := by intro _; rfl) : PS X (.For tg (.Name x npos) body [] pos) (tS X.K E md os os (forA i t b)) :=
  PS.weak (PS.or (ds_forK hp hc hv ho hg hb hs) (ds_for hp hc (di_seq (de_var hv ho)) hg hb hs)) fun σ H Q ⟨g, ρ, F, r, hpp, w⟩ => by
    unfold forA at w
    split at w
    · exact .inl ⟨g, ρ, F, r, hpp, w⟩
    · exact .inr ⟨g, ρ, F, r, hpp, w⟩
theorem do_lcA {i : Nat} {scope : Scope} {own : List (Str × Nat)} {t : Tgt} {c : EM Bool} {e : EM D} {gt : TG} (hc : X.calm = true) (hN : X.N.Nodup) (hv0 : PE X (.Name x npos) (tVar i)) (ho : os[i]? = some false) (ok : BlkOk X.N X.env.scope scope own)
    (hg : ∀ (s : Shared) (H : Hp) (C : Addr) (cl : List (Str × Addr)) (fp : List Addr), PG (X.blk s H scope (compEnvC scope cl C X.env) fp) tg gt)
    (ht : ∀ (s : Shared) (H : Hp) (C : Addr) (cl : List (Str × Addr)) (fp : List Addr), PTs (X.blk s H scope (compEnvC scope cl C X.env) fp) ifs (sB X.K E os c))
    (he : ∀ (s : Shared) (H : Hp) (C : Addr) (cl : List (Str × Addr)) (fp : List Addr), PE (X.blk s H scope (compEnvC scope cl C X.env) fp) elt (sD X.K E os e))
    (hr : RawT X.K os (own.map (·.2)) gt t) (hv : ∀ v ∈ own.map (·.2), os[v]? = some false) (hs : ∀ x', foldedSetIterable (.Name x npos) X.env x' = pure x' := by intro _; rfl) :
    PE X (.ListComp elt [⟨tg, .Name x npos, ifs, 0⟩] scope pos) (sO X.K E os (eCompA (own.map (·.2)) i t c e)) :=
  PE.weak (PE.or (do_lcK hc hN hv0 ho ok hg ht he hr hv hs) (do_lc hc hN (di_seq (de_var hv0 ho)) ok hg ht he hr hv hs)) fun σ H Q ⟨g, ρ, F, r, w⟩ => by
    unfold eCompA at w
    split at w
    · rename_i q
      refine .inl ⟨g, ρ, F, r, ?_⟩
      unfold eCompA at *
      exact w
    · exact .inr ⟨g, ρ, F, r, w⟩
theorem dv_cmp {a b : Expr} {fa fb : EM D} {op : CmpOp} {r : R2} {g2 : D → D → Res Bool} (ho : OpR X (compareOp op) r) (hg : Op2B X.K os r g2) (hn : ∀ x y, Noex (g2 x y)) (hm : behindInMarks op b = false) (ha : PE X a (sD X.K E os fa)) (hb : PE X b (sV X.K E os fb)) :
    PE X (.Compare a [op] [b] pos) (sD X.K E os (eBl (e2 g2 fa fb))) := PE.weak (pe_cmpR ho ha hb hm) fun σ H Q h => by
  obtain ⟨g, ρ, F, hR, w⟩ := h
  obtain ⟨g, ρ, F, hR, w⟩ := rBl ⟨g, ρ, F, hR, w⟩
  refine tG.bind hR w fun dx x ρ1 H1 F1 hR1 le1 rx w1 => ?_
  refine tG.bind hR1 w1 fun dy y ρ2 H2 F2 hR2 le2 ry w2 => ?_
  obtain ⟨d, ed, w3⟩ := w2.lift2 (hn _ _)
  exact hg g ρ2 σ H2 F2 x y dx dy d _ hR2 (Rep.view hR2.sub (Rep.mono le2 _ _ rx)) ry ed fun H' F' q l => w3 _ H' F' q l rfl
/-- a call's answer, True or False, as a part of and, or -/
def eAsB (f : EM D) : EM Bool := e1 gBl f
theorem dv_asb {a : Expr} {fa : EM D} (ha : PE X a (sD X.K E os fa)) : PE X a (sD X.K E os (eBl (eAsB fa))) := PE.weak ha fun σ H Q ⟨g, ρ, F, hR, w⟩ => by
  refine ⟨g, ρ, F, hR, ?_⟩
  unfold eBl eAsB DL.e1 eBind at w
  cases q : fa ρ with
  | exc x => rw [q] at w; exact w
  | bad => rw [q] at w; exact w
  | ok p =>
    obtain ⟨d, ρ'⟩ := p
    rw [q] at w
    cases d with
    | bl b => exact w
    | _ => exact w.elim
end
section
variable {X : Cx} {E : XK} {os : List Bool} {c : Expr} {f : EM Bool}
theorem PTs.weak {es : List Expr} {t t' : TT} (h : PTs X es t) (w : ∀ σ H Q, t' σ H Q → t σ H Q) : PTs X es t' := ⟨fun pins s σ H Q I q => h.run pins s σ H Q I (w σ H Q q)⟩
theorem dts_nil : PTs X [] (sB X.K E os eYes) := PTs.weak pts_nil fun σ H Q ⟨g, ρ, F, r, w⟩ => w true H F r FLe.refl rfl
theorem dts_one (h : PT X c (sB X.K E os f)) : PTs X [c] (sB X.K E os f) := pts_one h
end
end DL
/-! DL14: the mirrors evaluated. -/
namespace DL
open PySem PySem.Spec L2
set_option autoImplicit false
def rv (r : Res (D × List D)) : Res D := match r with
  | .ok (d, _) => .ok d
  | .exc x => .exc x
  | .bad => .bad
@[simp] theorem rv_ok (d : D) (l : List D) : rv (.ok (d, l)) = .ok d := rfl
@[simp] theorem rv_exc (x : XD) : rv (.exc x) = .exc x := rfl
@[simp] theorem rv_bad : rv .bad = .bad := rfl
section
variable {α β : Type} (ρ ρ' : Ev)
@[simp] theorem ap_ret (a : α) : eRet a ρ = .ok (a, ρ) := rfl
@[simp] theorem ap_bind (f : EM α) (k : α → EM β) : eBind f k ρ = (match f ρ with
  | .ok (a, ρ') => k a ρ'
  | .exc x => .exc x
  | .bad => .bad) := rfl
@[simp] theorem ap_liftOk (a : α) : eLift (.ok a) ρ = .ok (a, ρ) := rfl
@[simp] theorem ap_liftBad : eLift (.bad : Res α) ρ = .bad := rfl
@[simp] theorem ap_liftExc (x : XD) : eLift (.exc x : Res α) ρ = .exc x := rfl
@[simp] theorem ap_var (i : Nat) : eVar i ρ = (match ρ[i]? with
  | some (some d) => .ok (d, ρ)
  | _ => .bad) := rfl
@[simp] theorem ap_e1 (g : D → Res α) (f : EM D) : e1 g f ρ = (match f ρ with
  | .ok (a, ρ') => eLift (g a) ρ'
  | .exc x => .exc x
  | .bad => .bad) := by
  unfold e1 eBind
  cases f ρ with
  | ok p => obtain ⟨a, r⟩ := p; rfl
  | exc x => rfl
  | bad => rfl
@[simp] theorem ap_e2 (g : D → D → Res α) (f h : EM D) : e2 g f h ρ = (match f ρ with
  | .ok (a, ρ') => (match h ρ' with
    | .ok (b, ρ2) => eLift (g a b) ρ2
    | .exc x => .exc x
    | .bad => .bad)
  | .exc x => .exc x
  | .bad => .bad) := by
  unfold e2 eBind
  cases f ρ with
  | ok p =>
    obtain ⟨a, r⟩ := p
    dsimp only
    cases h r with
    | ok p => obtain ⟨b, r2⟩ := p; rfl
    | exc x => rfl
    | bad => rfl
  | exc x => rfl
  | bad => rfl
@[simp] theorem ap_nil : eNil ρ = .ok ([], ρ) := rfl
@[simp] theorem ap_cons (f : EM D) (r0 : EM (List D)) : eCons f r0 ρ = (match f ρ with
  | .ok (a, ρ') => (match r0 ρ' with
    | .ok (b, ρ2) => .ok (a :: b, ρ2)
    | .exc x => .exc x
    | .bad => .bad)
  | .exc x => .exc x
  | .bad => .bad) := by
  unfold eCons eBind
  cases f ρ with
  | ok p =>
    obtain ⟨a, r⟩ := p
    dsimp only
    cases r0 r with
    | ok p => obtain ⟨b, r2⟩ := p; rfl
    | exc x => rfl
    | bad => rfl
  | exc x => rfl
  | bad => rfl
@[simp] theorem ap_eL (g : List D → Res α) (f : EM (List D)) : eL g f ρ = (match f ρ with
  | .ok (a, ρ') => eLift (g a) ρ'
  | .exc x => .exc x
  | .bad => .bad) := by
  unfold eL eBind
  cases f ρ with
  | ok p => obtain ⟨a, r⟩ := p; rfl
  | exc x => rfl
  | bad => rfl
@[simp] theorem ap_and (f h : EM Bool) : eAnd f h ρ = (match f ρ with
  | .ok (c, ρ') => if c = true then h ρ' else .ok (false, ρ')
  | .exc x => .exc x
  | .bad => .bad) := by
  unfold eAnd eBind
  cases f ρ with
  | ok p =>
    obtain ⟨c, r⟩ := p
    cases c <;> rfl
  | exc x => rfl
  | bad => rfl
@[simp] theorem ap_or (f h : EM Bool) : eOr f h ρ = (match f ρ with
  | .ok (c, ρ') => if c = true then .ok (true, ρ') else h ρ'
  | .exc x => .exc x
  | .bad => .bad) := by
  unfold eOr eBind
  cases f ρ with
  | ok p =>
    obtain ⟨c, r⟩ := p
    cases c <;> rfl
  | exc x => rfl
  | bad => rfl
@[simp] theorem ap_not (f : EM Bool) : eNot f ρ = (match f ρ with
  | .ok (c, ρ') => .ok (!c, ρ')
  | .exc x => .exc x
  | .bad => .bad) := by
  unfold eNot eBind
  cases f ρ with
  | ok p =>
    obtain ⟨c, r⟩ := p
    cases c <;> rfl
  | exc x => rfl
  | bad => rfl
@[simp] theorem ap_bl (f : EM Bool) : eBl f ρ = (match f ρ with
  | .ok (c, ρ') => .ok (.bl c, ρ')
  | .exc x => .exc x
  | .bad => .bad) := by
  unfold eBl eBind
  cases f ρ with
  | ok p =>
    obtain ⟨c, r⟩ := p
    cases c <;> rfl
  | exc x => rfl
  | bad => rfl
@[simp] theorem ap_if (c : EM Bool) (f h : EM α) : eIf c f h ρ = (match c ρ with
  | .ok (c, ρ') => if c = true then f ρ' else h ρ'
  | .exc x => .exc x
  | .bad => .bad) := by
  unfold eIf eBind
  cases c ρ with
  | ok p =>
    obtain ⟨k, r⟩ := p
    cases k <;> rfl
  | exc x => rfl
  | bad => rfl
@[simp] theorem ap_asb (f : EM D) : eAsB f ρ = e1 gBl f ρ := rfl
@[simp] theorem gBl_bl (b : Bool) : gBl (.bl b) = .ok b := rfl
@[simp] theorem ap_yes : eYes ρ = .ok (true, ρ) := rfl
@[simp] theorem ap_seq (f h : SM) : sSeq f h ρ = (match f ρ with
  | .ok (.nx, ρ') => h ρ'
  | r => r) := rfl
@[simp] theorem ap_snil : sNil ρ = .ok (.nx, ρ) := rfl
@[simp] theorem ap_set (i : Nat) (f : EM D) : sSet i f ρ = (match f ρ with
  | .ok (d, ρ') => .ok (.nx, ρ'.set i (some d))
  | .exc x => .exc x
  | .bad => .bad) := rfl
@[simp] theorem ap_sret (f : EM D) : sRet f ρ = (match f ρ with
  | .ok (d, ρ') => .ok (.rt d, ρ')
  | .exc x => .exc x
  | .bad => .bad) := rfl
@[simp] theorem ap_drop (f : EM α) : sDrop f ρ = (match f ρ with
  | .ok (_, ρ') => .ok (.nx, ρ')
  | .exc x => .exc x
  | .bad => .bad) := rfl
@[simp] theorem ap_sif (c : EM Bool) (f h : SM) : sIf c f h ρ = (match c ρ with
  | .ok (c, ρ') => if c = true then f ρ' else h ρ'
  | .exc x => .exc x
  | .bad => .bad) := by
  unfold sIf
  cases c ρ with
  | ok p =>
    obtain ⟨k, r⟩ := p
    cases k <;> rfl
  | exc x => rfl
  | bad => rfl
@[simp] theorem ap_brk : sBrk ρ = .ok (.bk, ρ) := rfl
@[simp] theorem ap_sbad : sBad ρ = .bad := rfl
@[simp] theorem ap_gset (i : Nat) (d : D) : gSet i d ρ = .ok (ρ.set i (some d)) := rfl
@[simp] theorem ap_gsnil : gsNil [] ρ = .ok ρ := rfl
@[simp] theorem ap_gscons (t : Tgt) (u : Tgts) (d : D) (r : List D) : gsCons t u (d :: r) ρ = (match t d ρ with
  | .ok ρ' => u r ρ'
  | _ => .bad) := rfl
@[simp] theorem ap_gtup (n : Nat) (u : Tgts) (ds : List D) : gTupT n u (.tup ds) ρ = if ds.length = n then u ds ρ else .bad := rfl
@[simp] theorem ap_asg (f : EM D) (t : Tgt) : sAsg f t ρ = (match f ρ with
  | .ok (d, ρ') => (match t d ρ' with
    | .ok ρ2 => .ok (.nx, ρ2)
    | _ => .bad)
  | .exc x => .exc x
  | .bad => .bad) := rfl
@[simp] theorem ap_for (f : EM (List D)) (t : Tgt) (b : SM) : sFor f t b ρ = (match f ρ with
  | .ok (ds, ρ') => forM t b ds ρ'
  | .exc x => .exc x
  | .bad => .bad) := rfl
@[simp] theorem ap_upd (i : Nat) (g : D → Res (D × D)) : eUpd i g ρ = (match ρ[i]? with
  | some (some x) => (match g x with
    | .ok (x', r) => .ok (r, ρ.set i (some x'))
    | .exc e => .exc e
    | .bad => .bad)
  | _ => .bad) := rfl
@[simp] theorem res2_okk (x : D) : res2 (.ok x) = .ok (x, .non) := rfl
@[simp] theorem ap_par (i j : Nat) (f : EM (List D)) : sPar i j f ρ = (match f ρ with
  | .ok ([d, e], ρ') => .ok (.nx, (ρ'.set i (some d)).set j (some e))
  | .ok _ => .bad
  | .exc x => .exc x
  | .bad => .bad) := rfl
theorem fill_none : ∀ {ks : List (Option Nat)} {ds : List D}, ks.all Option.isNone = true → ds.length = ks.length → fill ks ds ρ = some ds
  | [], [], _, _ => rfl
  | [], _ :: _, _, h => by cases h
  | _ :: _, [], _, h => by cases h
  | none :: ks, d :: ds, h, hl => by
    unfold fill
    rw [fill_none (ks := ks) (ds := ds) (by simpa using h) (by simpa using hl)]
  | some i :: ks, d :: ds, h, _ => by simp at h
theorem back_none : ∀ {ks : List (Option Nat)} {ds : List D}, ks.all Option.isNone = true → back ks ds ρ = ρ
  | [], ds, _ => by cases ds <;> rfl
  | none :: ks, [], h => rfl
  | none :: ks, d :: ds, h => back_none (ks := ks) (ds := ds) (by simpa using h)
  | some i :: ks, ds, h => by simp at h
theorem call_none {ks : List (Option Nat)} {m : List D → Res (D × List D)} {ds : List D} (h : ks.all Option.isNone = true) (hl : ds.length = ks.length) : callM ks m ds ρ = (match rv (m ds) with
  | .ok d => .ok (d, ρ)
  | .exc x => .exc x
  | .bad => .bad) := by
  unfold callM
  rw [fill_none ρ h hl]
  simp only [back_none ρ h]
  cases m ds with
  | ok p => obtain ⟨d, l⟩ := p; rfl
  | exc x => rfl
  | bad => rfl
@[simp] theorem ap_call (ks : List (Option Nat)) (m : List D → Res (D × List D)) (f : EM (List D)) : eCall ks m f ρ = (match f ρ with
  | .ok (ds, ρ') => callM ks m ds ρ'
  | .exc x => .exc x
  | .bad => .bad) := by
  unfold eCall eBind
  cases f ρ with
  | ok p => obtain ⟨a, r⟩ := p; rfl
  | exc x => rfl
  | bad => rfl
@[simp] theorem call_n1 (m : List D → Res (D × List D)) (a : D) : callM [none] m [a] ρ = (match rv (m [a]) with
  | .ok d => .ok (d, ρ)
  | .exc x => .exc x
  | .bad => .bad) := call_none ρ rfl rfl
@[simp] theorem call_n2 (m : List D → Res (D × List D)) (a b : D) : callM [none, none] m [a, b] ρ = (match rv (m [a, b]) with
  | .ok d => .ok (d, ρ)
  | .exc x => .exc x
  | .bad => .bad) := call_none ρ rfl rfl
@[simp] theorem call_n3 (m : List D → Res (D × List D)) (a b c : D) : callM [none, none, none] m [a, b, c] ρ = (match rv (m [a, b, c]) with
  | .ok d => .ok (d, ρ)
  | .exc x => .exc x
  | .bad => .bad) := call_none ρ rfl rfl
@[simp] theorem call_n4 (m : List D → Res (D × List D)) (a b c d : D) : callM [none, none, none, none] m [a, b, c, d] ρ = (match rv (m [a, b, c, d]) with
  | .ok d => .ok (d, ρ)
  | .exc x => .exc x
  | .bad => .bad) := call_none ρ rfl rfl
@[simp] theorem call_n5 (m : List D → Res (D × List D)) (a b c d e : D) : callM [none, none, none, none, none] m [a, b, c, d, e] ρ = (match rv (m [a, b, c, d, e]) with
  | .ok d => .ok (d, ρ)
  | .exc x => .exc x
  | .bad => .bad) := call_none ρ rfl rfl
@[simp] theorem call_n6 (m : List D → Res (D × List D)) (a b c d e f : D) : callM [none, none, none, none, none, none] m [a, b, c, d, e, f] ρ = (match rv (m [a, b, c, d, e, f]) with
  | .ok d => .ok (d, ρ)
  | .exc x => .exc x
  | .bad => .bad) := call_none ρ rfl rfl
theorem rv_fn (n np : Nat) (rtm : Bool) (b : SM) (ds : List D) : rv (fnM n np rtm b ds) = (match b (initEv n ds) with
  | .ok (.nx, _) => if rtm = true then .bad else .ok .non
  | .ok (.rt d, _) => .ok d
  | .ok _ => .bad
  | .exc x => .exc x
  | .bad => .bad) := by
  unfold fnM
  cases b (initEv n ds) with
  | ok p =>
    obtain ⟨fl, ρ⟩ := p
    cases fl with
    | nx => cases rtm <;> rfl
    | rt d => rfl
    | bk => rfl
    | ct => rfl
  | exc x => rfl
  | bad => rfl
@[simp] theorem init_1 (n : Nat) (a : D) : initEv (n + 1) [a] = some a :: List.replicate n none := rfl
@[simp] theorem init_2 (n : Nat) (a b : D) : initEv (n + 2) [a, b] = some a :: some b :: List.replicate n none := rfl
@[simp] theorem init_3 (n : Nat) (a b c : D) : initEv (n + 3) [a, b, c] = some a :: some b :: some c :: List.replicate n none := rfl
@[simp] theorem init_4 (n : Nat) (a b c d : D) : initEv (n + 4) [a, b, c, d] = some a :: some b :: some c :: some d :: List.replicate n none := rfl
/-! the operators -/
@[simp] theorem addD_int (i j : Int) : addD (.int i) (.int j) = .ok (.int (i + j)) := rfl
@[simp] theorem subD_int (i j : Int) : subD (.int i) (.int j) = .ok (.int (i - j)) := rfl
@[simp] theorem negD_int (i : Int) : negD (.int i) = .ok (.int (-i)) := rfl
theorem mulD_int {i j : Int} (h : okMul i j = true) : mulD (.int i) (.int j) = .ok (.int (i * j)) := by unfold mulD; simp [h]
theorem fdivD_int {i j : Int} (h : okDiv j = true) : fdivD (.int i) (.int j) = .ok (.int (i.fdiv j)) := by unfold fdivD; simp [h]
theorem modD_int {i j : Int} (h : j ≠ 0) : modD (.int i) (.int j) = .ok (.int (i.fmod j)) := by unfold modD; simp [h]
@[simp] theorem cmpD_int (f : Int → Int → Bool) (i j : Int) : cmpD f (.int i) (.int j) = .ok (f i j) := rfl
@[simp] theorem gcdD_int (i j : Int) : gcdD (.int i) (.int j) = .ok (.int (Int.gcd i j)) := rfl
@[simp] theorem intD_int (i : Int) : intD (.int i) = .ok (.int i) := rfl
@[simp] theorem absD_int (i : Int) : absD (.int i) = .ok (.int (if i < 0 then -i else i)) := rfl
end
@[simp] theorem ap_chain {α : Type} (g1 g2 : D → D → Res Bool) (fa fb fc : EM D) (ρ : Ev) : eChain (α := α) g1 g2 fa fb fc ρ = (match fa ρ with
  | .ok (x, ρ1) => (match fb ρ1 with
    | .ok (y, ρ2) => (match g1 x y with
      | .ok k => if k = true then (match fc ρ2 with
        | .ok (z, ρ3) => eLift (g2 y z) ρ3
        | .exc x => .exc x
        | .bad => .bad) else .ok (false, ρ2)
      | .exc x => .exc x
      | .bad => .bad)
    | .exc x => .exc x
    | .bad => .bad)
  | .exc x => .exc x
  | .bad => .bad) := by
  unfold eChain eBind eLift
  cases fa ρ with
  | exc x => rfl
  | bad => rfl
  | ok p =>
    obtain ⟨x, ρ1⟩ := p
    dsimp only
    cases fb ρ1 with
    | exc x => rfl
    | bad => rfl
    | ok p =>
      obtain ⟨y, ρ2⟩ := p
      dsimp only
      cases g1 x y with
      | exc x => rfl
      | bad => rfl
      | ok k =>
        cases k with
        | false => rfl
        | true =>
          simp only [if_true]
          cases fc ρ2 with
          | exc x => rfl
          | bad => rfl
          | ok p => obtain ⟨z, ρ3⟩ := p; rfl
@[simp] theorem gTup0 : gTup [] = .ok (.tup []) := by simp [gTup, sizeLine_eq]
@[simp] theorem gTup1 (a : D) : gTup [a] = .ok (.tup [a]) := by simp [gTup, sizeLine_eq]
@[simp] theorem gTup2 (a b : D) : gTup [a, b] = .ok (.tup [a, b]) := by simp [gTup, sizeLine_eq]
@[simp] theorem gTup3 (a b c : D) : gTup [a, b, c] = .ok (.tup [a, b, c]) := by simp [gTup, sizeLine_eq]
@[simp] theorem gTup4 (a b c d : D) : gTup [a, b, c, d] = .ok (.tup [a, b, c, d]) := by simp [gTup, sizeLine_eq]
@[simp] theorem gTup5 (a b c d e : D) : gTup [a, b, c, d, e] = .ok (.tup [a, b, c, d, e]) := by simp [gTup, sizeLine_eq]
@[simp] theorem gLst0 : gLst [] = .ok (.lst []) := by simp [gLst, sizeLine_eq]
@[simp] theorem gLst1 (a : D) : gLst [a] = .ok (.lst [a]) := by simp [gLst, sizeLine_eq]
@[simp] theorem gLst2 (a b : D) : gLst [a, b] = .ok (.lst [a, b]) := by simp [gLst, sizeLine_eq]
@[simp] theorem gLst3 (a b c : D) : gLst [a, b, c] = .ok (.lst [a, b, c]) := by simp [gLst, sizeLine_eq]
@[simp] theorem gLst4 (a b c d : D) : gLst [a, b, c, d] = .ok (.lst [a, b, c, d]) := by simp [gLst, sizeLine_eq]
@[simp] theorem gLst5 (a b c d e : D) : gLst [a, b, c, d, e] = .ok (.lst [a, b, c, d, e]) := by simp [gLst, sizeLine_eq]
theorem atI_k {α : Type} {xs : List α} {k : Nat} {a : α} (h : xs[k]? = some a) : atI xs (k : Int) = some a := by
  have hl : k < xs.length := (List.getElem?_eq_some_iff.mp h).1
  unfold atI ixN
  rw [if_pos (by omega), if_pos (by omega)]
  exact h
theorem ixT_k {xs : List D} {k : Nat} {a : D} (h : xs[k]? = some a) : ixD (.tup xs) (.int k) = .ok a := by
  show (match atI xs (k : Int) with | some d => Res.ok d | none => .bad) = _
  rw [atI_k h]
theorem ixL_k {xs : List D} {k : Nat} {a : D} (h : xs[k]? = some a) : ixD (.lst xs) (.int k) = .ok a := by
  show (match atI xs (k : Int) with | some d => Res.ok d | none => .bad) = _
  rw [atI_k h]
@[simp] theorem ixT0 (a : D) (r : List D) : ixD (.tup (a :: r)) (.int 0) = .ok a := ixT_k (k := 0) rfl
@[simp] theorem ixT1 (a b : D) (r : List D) : ixD (.tup (a :: b :: r)) (.int 1) = .ok b := ixT_k (k := 1) rfl
@[simp] theorem ixT2 (a b c : D) (r : List D) : ixD (.tup (a :: b :: c :: r)) (.int 2) = .ok c := ixT_k (k := 2) rfl
@[simp] theorem ixT3 (a b c d : D) (r : List D) : ixD (.tup (a :: b :: c :: d :: r)) (.int 3) = .ok d := ixT_k (k := 3) rfl
@[simp] theorem ixL0 (a : D) (r : List D) : ixD (.lst (a :: r)) (.int 0) = .ok a := ixL_k (k := 0) rfl
@[simp] theorem ixL1 (a b : D) (r : List D) : ixD (.lst (a :: b :: r)) (.int 1) = .ok b := ixL_k (k := 1) rfl
@[simp] theorem ixL2 (a b c : D) (r : List D) : ixD (.lst (a :: b :: c :: r)) (.int 2) = .ok c := ixL_k (k := 2) rfl
@[simp] theorem ixL3 (a b c d : D) (r : List D) : ixD (.lst (a :: b :: c :: d :: r)) (.int 3) = .ok d := ixL_k (k := 3) rfl
@[simp] theorem ap_e2N {α : Type} (g : D → D → Res α) (i : Nat) (h : EM D) (ρ : Ev) : e2N g i h ρ = (match ρ[i]? with
  | some (some _) => (match h ρ with
    | .ok (b, ρ2) => (match ρ2[i]? with
      | some (some a) => eLift (g a b) ρ2
      | _ => .bad)
    | .exc x => .exc x
    | .bad => .bad)
  | _ => .bad) := by
  unfold e2N eBind eVar
  cases q : ρ[i]? with
  | none => simp [q]
  | some o => cases o with
    | none => simp [q]
    | some d =>
      simp only [q]
      cases h ρ with
      | ok p =>
        obtain ⟨b, r⟩ := p
        dsimp only
        cases q2 : r[i]? with
        | none => simp [q2]
        | some o => cases o <;> simp [q2]
      | exc x => rfl
      | bad => rfl
@[simp] theorem ap_consO (i : Nat) (f : EM (List D)) (ρ : Ev) : eConsO i f ρ = (match ρ[i]? with
  | some (some _) => (match f ρ with
    | .ok (ds, ρ2) => .ok (.non :: ds, ρ2)
    | .exc x => .exc x
    | .bad => .bad)
  | _ => .bad) := by
  unfold eConsO eBind eVar
  cases q : ρ[i]? with
  | none => simp [q]
  | some o => cases o with
    | none => simp [q]
    | some d =>
      simp only [q]
      cases f ρ with
      | ok p => obtain ⟨b, r⟩ := p; rfl
      | exc x => rfl
      | bad => rfl
@[simp] theorem call_o1 (m : List D → Res (D × List D)) (i : Nat) (x : D) (ρ : Ev) : callM [some i] m [x] ρ = (match ρ[i]? with
  | some (some d) => (match m [d] with
    | .ok (r, ds) => .ok (r, back [some i] ds ρ)
    | .exc x => .exc x
    | .bad => .bad)
  | _ => .bad) := by
  unfold callM fill
  cases q : ρ[i]? with
  | none => simp [q]
  | some o => cases o with
    | none => simp [q]
    | some d =>
      simp only [q, fill] <;> (rcases m [d] with ⟨b, r⟩ | x | _ <;> rfl)
@[simp] theorem call_o2 (m : List D → Res (D × List D)) (i : Nat) (x a : D) (ρ : Ev) : callM [some i, none] m [x, a] ρ = (match ρ[i]? with
  | some (some d) => (match m [d, a] with
    | .ok (r, ds) => .ok (r, back [some i, none] ds ρ)
    | .exc x => .exc x
    | .bad => .bad)
  | _ => .bad) := by
  unfold callM fill
  cases q : ρ[i]? with
  | none => simp [q]
  | some o => cases o with
    | none => simp [q]
    | some d =>
      simp only [q, fill] <;> (rcases m [d, a] with ⟨b, r⟩ | x | _ <;> rfl)
@[simp] theorem call_o3 (m : List D → Res (D × List D)) (i : Nat) (x a c : D) (ρ : Ev) : callM [some i, none, none] m [x, a, c] ρ = (match ρ[i]? with
  | some (some d) => (match m [d, a, c] with
    | .ok (r, ds) => .ok (r, back [some i, none, none] ds ρ)
    | .exc x => .exc x
    | .bad => .bad)
  | _ => .bad) := by
  unfold callM fill
  cases q : ρ[i]? with
  | none => simp [q]
  | some o => cases o with
    | none => simp [q]
    | some d =>
      simp only [q, fill] <;> (rcases m [d, a, c] with ⟨b, r⟩ | x | _ <;> rfl)
@[simp] theorem back_o1 (i : Nat) (d : D) (ρ : Ev) : back [some i] [d] ρ = ρ.set i (some d) := rfl
@[simp] theorem back_o2 (i : Nat) (d a : D) (ρ : Ev) : back [some i, none] [d, a] ρ = ρ.set i (some d) := rfl
@[simp] theorem back_o3 (i : Nat) (d a b : D) (ρ : Ev) : back [some i, none, none] [d, a, b] ρ = ρ.set i (some d) := rfl
@[simp] theorem ap_put (i : Nat) (g : D → D → D → Res D) (fe fi : EM D) (ρ : Ev) : sPut i g fe fi ρ = (match fe ρ with
  | .ok (d, ρ1) => (match ρ1[i]? with
    | some (some _) => (match fi ρ1 with
      | .ok (q, ρ2) => (match ρ2[i]? with
        | some (some x) => (match g x q d with
          | .ok x' => .ok (.nx, ρ2.set i (some x'))
          | .exc e => .exc e
          | .bad => .bad)
        | _ => .bad)
      | .exc x => .exc x
      | .bad => .bad)
    | _ => .bad)
  | .exc x => .exc x
  | .bad => .bad) := by
  unfold sPut sDrop eBind
  cases fe ρ with
  | exc x => rfl
  | bad => rfl
  | ok p =>
    obtain ⟨d, ρ1⟩ := p
    dsimp only
    unfold eVar
    cases q : ρ1[i]? with
    | none => simp [q]
    | some o => cases o with
      | none => simp [q]
      | some z =>
        simp only [q]
        cases fi ρ1 with
        | exc x => rfl
        | bad => rfl
        | ok p =>
          obtain ⟨k, ρ2⟩ := p
          dsimp only
          unfold eUpd
          cases q2 : ρ2[i]? with
          | none => simp [q2]
          | some o => cases o with
            | none => simp [q2]
            | some z =>
              simp only [q2]
              cases g z k d <;> simp [res2]
theorem forM_inv {t : Tgt} {b : SM} (I : Nat → Ev → Prop) : ∀ (ds : List D) (n : Nat) (ρ : Ev), I n ρ → (∀ k d ρ, ds[k]? = some d → I (n + k) ρ → ∃ ρ1 ρ2, t d ρ = .ok ρ1 ∧ b ρ1 = .ok (.nx, ρ2) ∧ I (n + k + 1) ρ2) → ∃ ρ', forM t b ds ρ = .ok (.nx, ρ') ∧ I (n + ds.length) ρ'
  | [], n, ρ, h, _ => ⟨ρ, rfl, h⟩
  | d :: ds, n, ρ, h, st => by
    obtain ⟨ρ1, ρ2, h1, h2, h3⟩ := st 0 d ρ rfl h
    obtain ⟨ρ', h4, h5⟩ := forM_inv I ds (n + 1) ρ2 h3 fun k d ρ hk hI => by
      have := st (k + 1) d ρ (by simpa using hk) (by rw [show n + (k + 1) = n + 1 + k by omega]; exact hI)
      obtain ⟨a, b, c1, c2, c3⟩ := this
      exact ⟨a, b, c1, c2, by rw [show n + 1 + k + 1 = n + (k + 1) + 1 by omega]; exact c3⟩
    refine ⟨ρ', ?_, by rw [List.length_cons, show n + (ds.length + 1) = n + 1 + ds.length by omega]; exact h5⟩
    unfold forM
    rw [h1]
    dsimp only
    rw [h2]
    exact h4
theorem fmod_range {a m : Int} (h : 0 < m) : 0 ≤ a.fmod m ∧ a.fmod m < m := by
  rw [Int.fmod_eq_emod_of_nonneg a (by omega)]
  exact ⟨Int.emod_nonneg a (by omega), Int.emod_lt_of_pos a h⟩
theorem log2_le {n b : Nat} (h : n < 2 ^ (b + 1)) : n.log2 ≤ b := by
  by_cases z : n = 0
  · subst z; simp
  · have := (Nat.log2_lt z).mpr h
    omega
theorem mul_mid {i j : Int} (hi : i.natAbs < 2 ^ 250) (hj : j.natAbs < 2 ^ 250) : okMul i j = true := by
  unfold okMul
  refine decide_eq_true (.inr (.inr ?_))
  have := log2_le (b := 249) hi
  have := log2_le (b := 249) hj
  omega
theorem div_mid {j : Int} (h0 : j ≠ 0) (hj : j.natAbs < 2 ^ 250) : okDiv j = true := by
  unfold okDiv
  refine decide_eq_true ⟨h0, ?_⟩
  have := log2_le (b := 249) hj
  omega
theorem mul_small {i j : Int} (h : i.natAbs < 2 ^ 64) : okMul i j = true := by
  unfold okMul
  refine decide_eq_true (.inl ?_)
  omega
theorem mul_small' {i j : Int} (h : j.natAbs < 2 ^ 64) : okMul i j = true := by
  unfold okMul
  refine decide_eq_true (.inr (.inl ?_))
  omega
end DL
namespace DL
open PySem PySem.Spec L2
@[simp] theorem eqD_int (i j : Int) : eqD (.int i) (.int j) = .ok (decide (i = j)) := by
  simp [eqD, toP, SeqAt.shaped, PyData.canLay0, PyData.depth, PyData.eqv]
  rfl
@[simp] theorem neD_int (i j : Int) : neD (.int i) (.int j) = .ok (!decide (i = j)) := by
  unfold neD; rw [eqD_int]
@[simp] theorem eqD_bl (i j : Bool) : eqD (.bl i) (.bl j) = .ok (i == j) := by
  simp [eqD, toP, SeqAt.shaped, PyData.canLay0, PyData.depth, PyData.eqv]
@[simp] theorem neD_bl (i j : Bool) : neD (.bl i) (.bl j) = .ok (!(i == j)) := by
  unfold neD; rw [eqD_bl]
@[simp] theorem eqD_pair (a b c d : Int) : eqD (.tup [.int a, .int b]) (.tup [.int c, .int d]) = .ok (decide (a = c) && decide (b = d)) := by
  simp [eqD, toP, toP.toPs, SeqAt.shaped, PyData.canLay0, PyData.canLayAll0, PyData.depth, PyData.depthAll, PyData.eqv, PyData.eqvAll]
  rfl
@[simp] theorem neD_pair (a b c d : Int) : neD (.tup [.int a, .int b]) (.tup [.int c, .int d]) = .ok (!(decide (a = c) && decide (b = d))) := by
  unfold neD; rw [eqD_pair]
theorem toPs_ints : ∀ ns : List Int, toP.toPs (ns.map D.int) = some (ns.map PyData.int)
  | [] => rfl
  | n :: ns => by
    rw [List.map_cons, List.map_cons]
    unfold toP.toPs
    rw [toPs_ints ns]
    rfl
theorem lay_ints : ∀ ns : List Int, PyData.canLayAll0 (ns.map PyData.int) = true
  | [] => rfl
  | n :: ns => by
    rw [List.map_cons]
    unfold PyData.canLayAll0
    rw [lay_ints ns]
    rfl
theorem depth_ints : ∀ ns : List Int, PyData.depthAll (ns.map PyData.int) = 0
  | [] => rfl
  | n :: ns => by
    rw [List.map_cons]
    unfold PyData.depthAll
    rw [depth_ints ns]
    rfl
theorem eqv_ints : ∀ ns ms : List Int, PyData.eqvAll (ns.map PyData.int) (ms.map PyData.int) = decide (ns = ms)
  | [], [] => rfl
  | [], _ :: _ => rfl
  | _ :: _, [] => rfl
  | n :: ns, m :: ms => by
    rw [List.map_cons, List.map_cons]
    unfold PyData.eqvAll
    rw [eqv_ints ns ms]
    unfold PyData.eqv
    by_cases h : n = m
    · subst h; simp
    · simp [h]
theorem eqD_ints (ns ms : List Int) : eqD (.lst (ns.map .int)) (.lst (ms.map .int)) = .ok (decide (ns = ms)) := by
  have h1 : toP (.lst (ns.map .int)) = some (.list (ns.map .int)) := by unfold toP; rw [toPs_ints]; rfl
  have h2 : toP (.lst (ms.map .int)) = some (.list (ms.map .int)) := by unfold toP; rw [toPs_ints]; rfl
  have s : ∀ ns : List Int, SeqAt.shaped (.list (ns.map .int)) = true := fun ns => by
    unfold SeqAt.shaped PyData.canLay0 PyData.depth
    rw [lay_ints, depth_ints]
    rfl
  unfold eqD
  rw [h1, h2]
  dsimp only
  rw [if_pos ⟨s ns, s ms⟩]
  unfold PyData.eqv
  rw [eqv_ints]
theorem neD_ints (ns ms : List Int) : neD (.lst (ns.map .int)) (.lst (ms.map .int)) = .ok (!decide (ns = ms)) := by
  unfold neD; rw [eqD_ints]
@[simp] theorem lenD_lst (xs : List D) : lenD (.lst xs) = .ok (.int xs.length) := rfl
@[simp] theorem lenD_tup (xs : List D) : lenD (.tup xs) = .ok (.int xs.length) := rfl
@[simp] theorem lenD_dic (t : Bool) (xs : List (D × D)) : lenD (.dic t xs) = .ok (.int xs.length) := rfl
@[simp] theorem pow_10_18 : powD (.int 10) (.int 18) = .ok (.int (10 ^ 18)) := by simp [powD]
@[simp] theorem isC_int_non (i : Int) : isC (.int i) .non = .ok false := rfl
@[simp] theorem isC_tup_non (i : List D) : isC (.tup i) .non = .ok false := rfl
@[simp] theorem isC_non_non : isC .non .non = .ok true := rfl
end DL
namespace DL
open PySem PySem.Spec L2
theorem compM_map {vs : List Nat} {t : Tgt} {e : EM D} (I : Ev → Prop) (f : Nat → D) : ∀ (ds : List D) (n : Nat) (ρ : Ev) (acc : List D), I ρ → acc.length + ds.length ≤ sizeLine → (∀ k d ρ, ds[k]? = some d → I ρ → ∃ ρ1 ρ2, t d ρ = .ok ρ1 ∧ e ρ1 = .ok (f (n + k), ρ2) ∧ I (wipeE ρ2 vs)) →
    ∃ ρ', compM vs t eYes e ds ρ acc = .ok (acc ++ (List.range ds.length).map (fun k => f (n + k)), ρ') ∧ I ρ'
  | [], n, ρ, acc, h, _, _ => ⟨ρ, by simp [compM], h⟩
  | d :: ds, n, ρ, acc, h, hz, st => by
    obtain ⟨ρ1, ρ2, h1, h2, h3⟩ := st 0 d ρ rfl h
    obtain ⟨ρ', h4, h5⟩ := compM_map I f ds (n + 1) (wipeE ρ2 vs) (acc ++ [f (n + 0)]) h3 (by simp at hz ⊢; omega) fun k d ρ hk hI => by
      have := st (k + 1) d ρ (by simpa using hk) hI
      obtain ⟨a, b, c1, c2, c3⟩ := this
      exact ⟨a, b, c1, by rw [show n + 1 + k = n + (k + 1) by omega]; exact c2, c3⟩
    refine ⟨ρ', ?_, h5⟩
    unfold compM
    rw [h1]
    dsimp only
    rw [ap_yes]
    dsimp only
    rw [h2]
    dsimp only
    rw [if_pos (by simp at hz; omega), h4, List.length_cons, List.range_succ_eq_map, List.map_cons, List.map_map, List.append_assoc]
    have e : (List.range ds.length).map (fun k => f (n + 1 + k)) = (List.range ds.length).map ((fun k => f (n + k)) ∘ Nat.succ) := List.map_congr_left fun k _ => by
      show f (n + 1 + k) = f (n + (k + 1))
      rw [show n + 1 + k = n + (k + 1) by omega]
    rw [e]
    rfl
theorem forM_map_inv {t : Tgt} {b : SM} {α : Type} (g : α → D) (I : Nat → Ev → Prop) (xs : List α) (ρ : Ev) (h : I 0 ρ) (st : ∀ k x ρ, xs[k]? = some x → I k ρ → ∃ ρ1 ρ2, t (g x) ρ = .ok ρ1 ∧ b ρ1 = .ok (.nx, ρ2) ∧ I (k + 1) ρ2) : ∃ ρ', forM t b (xs.map g) ρ = .ok (.nx, ρ') ∧ I xs.length ρ' := by
  have := forM_inv (t := t) (b := b) I (xs.map g) 0 ρ h fun k d ρ hk hI => by
    rw [List.getElem?_map] at hk
    obtain ⟨x, hx, e⟩ := Option.map_eq_some_iff.mp hk
    subst e
    rw [Nat.zero_add] at hI ⊢
    exact st k x ρ hx hI
  rw [List.length_map, Nat.zero_add] at this
  exact this
theorem rngL_eq (lo hi : Int) : rngL lo hi = ((List.range (hi - lo).toNat).map fun (i : Nat) => lo + (i : Int)).map D.int := by
  unfold rngL
  rw [List.map_map]
  rfl
/-- a loop over a range -/
theorem for_rng {t : Tgt} {b : SM} (lo hi : Int) (I : Nat → Ev → Prop) (ρ : Ev) (h : I 0 ρ) (st : ∀ (k : Nat) ρ, (k : Int) < hi - lo → I k ρ → ∃ ρ1 ρ2, t (.int (lo + k)) ρ = .ok ρ1 ∧ b ρ1 = .ok (.nx, ρ2) ∧ I (k + 1) ρ2) : ∃ ρ', forM t b (rngL lo hi) ρ = .ok (.nx, ρ') ∧ I (hi - lo).toNat ρ' := by
  have := forM_map_inv (t := t) (b := b) (fun (i : Nat) => D.int (lo + (i : Int))) I (List.range (hi - lo).toNat) ρ h fun k x ρ hk hI => by
    have hl := (List.getElem?_eq_some_iff.mp hk).1
    rw [List.length_range] at hl
    rw [List.getElem?_range hl] at hk
    cases hk
    exact st k ρ (by omega) hI
  rw [List.length_range] at this
  exact this
theorem rng2_ok {lo hi : Int} (h : lo.natAbs < 2 ^ 40) (h2 : hi.natAbs < 2 ^ 40) : rng2D (.int lo) (.int hi) = .ok (rngL lo hi) := by
  show (if -(2 ^ 62) ≤ lo ∧ lo < 2 ^ 62 ∧ -(2 ^ 62) ≤ hi ∧ hi < 2 ^ 62 then Res.ok (rngL lo hi) else .bad) = _
  rw [if_pos (by omega)]
theorem rng1_ok {hi : Int} (h2 : hi.natAbs < 2 ^ 40) : rng1D (.int hi) = .ok (rngL 0 hi) := by
  show (if -(2 ^ 62) ≤ hi ∧ hi < 2 ^ 62 then Res.ok (rngL 0 hi) else .bad) = _
  rw [if_pos (by omega)]
end DL
namespace DL
open PySem PySem.Spec L2
theorem kit_non_dict : kitB "NoneType" "dict" = some false := by decide +kernel
@[simp] theorem isi_non_dict  : isiD "dict" .non = .ok (.bl false) := by
  show (match kitB "NoneType" "dict" with | some b => Res.ok (D.bl b) | none => .bad) = _
  rw [kit_non_dict]
theorem kit_non_list : kitB "NoneType" "list" = some false := by decide +kernel
@[simp] theorem isi_non_list  : isiD "list" .non = .ok (.bl false) := by
  show (match kitB "NoneType" "list" with | some b => Res.ok (D.bl b) | none => .bad) = _
  rw [kit_non_list]
theorem kit_non_tuple : kitB "NoneType" "tuple" = some false := by decide +kernel
@[simp] theorem isi_non_tuple  : isiD "tuple" .non = .ok (.bl false) := by
  show (match kitB "NoneType" "tuple" with | some b => Res.ok (D.bl b) | none => .bad) = _
  rw [kit_non_tuple]
theorem kit_non_str : kitB "NoneType" "str" = some false := by decide +kernel
@[simp] theorem isi_non_str  : isiD "str" .non = .ok (.bl false) := by
  show (match kitB "NoneType" "str" with | some b => Res.ok (D.bl b) | none => .bad) = _
  rw [kit_non_str]
theorem kit_non_int : kitB "NoneType" "int" = some false := by decide +kernel
@[simp] theorem isi_non_int  : isiD "int" .non = .ok (.bl false) := by
  show (match kitB "NoneType" "int" with | some b => Res.ok (D.bl b) | none => .bad) = _
  rw [kit_non_int]
theorem kit_non_bool : kitB "NoneType" "bool" = some false := by decide +kernel
@[simp] theorem isi_non_bool  : isiD "bool" .non = .ok (.bl false) := by
  show (match kitB "NoneType" "bool" with | some b => Res.ok (D.bl b) | none => .bad) = _
  rw [kit_non_bool]
theorem kit_bl_dict : kitB "bool" "dict" = some false := by decide +kernel
@[simp] theorem isi_bl_dict (b : Bool) : isiD "dict" (.bl b) = .ok (.bl false) := by
  show (match kitB "bool" "dict" with | some b => Res.ok (D.bl b) | none => .bad) = _
  rw [kit_bl_dict]
theorem kit_bl_list : kitB "bool" "list" = some false := by decide +kernel
@[simp] theorem isi_bl_list (b : Bool) : isiD "list" (.bl b) = .ok (.bl false) := by
  show (match kitB "bool" "list" with | some b => Res.ok (D.bl b) | none => .bad) = _
  rw [kit_bl_list]
theorem kit_bl_tuple : kitB "bool" "tuple" = some false := by decide +kernel
@[simp] theorem isi_bl_tuple (b : Bool) : isiD "tuple" (.bl b) = .ok (.bl false) := by
  show (match kitB "bool" "tuple" with | some b => Res.ok (D.bl b) | none => .bad) = _
  rw [kit_bl_tuple]
theorem kit_bl_str : kitB "bool" "str" = some false := by decide +kernel
@[simp] theorem isi_bl_str (b : Bool) : isiD "str" (.bl b) = .ok (.bl false) := by
  show (match kitB "bool" "str" with | some b => Res.ok (D.bl b) | none => .bad) = _
  rw [kit_bl_str]
theorem kit_bl_int : kitB "bool" "int" = some true := by decide +kernel
@[simp] theorem isi_bl_int (b : Bool) : isiD "int" (.bl b) = .ok (.bl true) := by
  show (match kitB "bool" "int" with | some b => Res.ok (D.bl b) | none => .bad) = _
  rw [kit_bl_int]
theorem kit_bl_bool : kitB "bool" "bool" = some true := by decide +kernel
@[simp] theorem isi_bl_bool (b : Bool) : isiD "bool" (.bl b) = .ok (.bl true) := by
  show (match kitB "bool" "bool" with | some b => Res.ok (D.bl b) | none => .bad) = _
  rw [kit_bl_bool]
theorem kit_int_dict : kitB "int" "dict" = some false := by decide +kernel
@[simp] theorem isi_int_dict (b : Int) : isiD "dict" (.int b) = .ok (.bl false) := by
  show (match kitB "int" "dict" with | some b => Res.ok (D.bl b) | none => .bad) = _
  rw [kit_int_dict]
theorem kit_int_list : kitB "int" "list" = some false := by decide +kernel
@[simp] theorem isi_int_list (b : Int) : isiD "list" (.int b) = .ok (.bl false) := by
  show (match kitB "int" "list" with | some b => Res.ok (D.bl b) | none => .bad) = _
  rw [kit_int_list]
theorem kit_int_tuple : kitB "int" "tuple" = some false := by decide +kernel
@[simp] theorem isi_int_tuple (b : Int) : isiD "tuple" (.int b) = .ok (.bl false) := by
  show (match kitB "int" "tuple" with | some b => Res.ok (D.bl b) | none => .bad) = _
  rw [kit_int_tuple]
theorem kit_int_str : kitB "int" "str" = some false := by decide +kernel
@[simp] theorem isi_int_str (b : Int) : isiD "str" (.int b) = .ok (.bl false) := by
  show (match kitB "int" "str" with | some b => Res.ok (D.bl b) | none => .bad) = _
  rw [kit_int_str]
theorem kit_int_int : kitB "int" "int" = some true := by decide +kernel
@[simp] theorem isi_int_int (b : Int) : isiD "int" (.int b) = .ok (.bl true) := by
  show (match kitB "int" "int" with | some b => Res.ok (D.bl b) | none => .bad) = _
  rw [kit_int_int]
theorem kit_int_bool : kitB "int" "bool" = some false := by decide +kernel
@[simp] theorem isi_int_bool (b : Int) : isiD "bool" (.int b) = .ok (.bl false) := by
  show (match kitB "int" "bool" with | some b => Res.ok (D.bl b) | none => .bad) = _
  rw [kit_int_bool]
theorem kit_str_dict : kitB "str" "dict" = some false := by decide +kernel
@[simp] theorem isi_str_dict (b : Str) : isiD "dict" (.str b) = .ok (.bl false) := by
  show (match kitB "str" "dict" with | some b => Res.ok (D.bl b) | none => .bad) = _
  rw [kit_str_dict]
theorem kit_str_list : kitB "str" "list" = some false := by decide +kernel
@[simp] theorem isi_str_list (b : Str) : isiD "list" (.str b) = .ok (.bl false) := by
  show (match kitB "str" "list" with | some b => Res.ok (D.bl b) | none => .bad) = _
  rw [kit_str_list]
theorem kit_str_tuple : kitB "str" "tuple" = some false := by decide +kernel
@[simp] theorem isi_str_tuple (b : Str) : isiD "tuple" (.str b) = .ok (.bl false) := by
  show (match kitB "str" "tuple" with | some b => Res.ok (D.bl b) | none => .bad) = _
  rw [kit_str_tuple]
theorem kit_str_str : kitB "str" "str" = some true := by decide +kernel
@[simp] theorem isi_str_str (b : Str) : isiD "str" (.str b) = .ok (.bl true) := by
  show (match kitB "str" "str" with | some b => Res.ok (D.bl b) | none => .bad) = _
  rw [kit_str_str]
theorem kit_str_int : kitB "str" "int" = some false := by decide +kernel
@[simp] theorem isi_str_int (b : Str) : isiD "int" (.str b) = .ok (.bl false) := by
  show (match kitB "str" "int" with | some b => Res.ok (D.bl b) | none => .bad) = _
  rw [kit_str_int]
theorem kit_str_bool : kitB "str" "bool" = some false := by decide +kernel
@[simp] theorem isi_str_bool (b : Str) : isiD "bool" (.str b) = .ok (.bl false) := by
  show (match kitB "str" "bool" with | some b => Res.ok (D.bl b) | none => .bad) = _
  rw [kit_str_bool]
theorem kit_lst_dict : kitB "list" "dict" = some false := by decide +kernel
@[simp] theorem isi_lst_dict (b : List D) : isiD "dict" (.lst b) = .ok (.bl false) := by
  show (match kitB "list" "dict" with | some b => Res.ok (D.bl b) | none => .bad) = _
  rw [kit_lst_dict]
theorem kit_lst_list : kitB "list" "list" = some true := by decide +kernel
@[simp] theorem isi_lst_list (b : List D) : isiD "list" (.lst b) = .ok (.bl true) := by
  show (match kitB "list" "list" with | some b => Res.ok (D.bl b) | none => .bad) = _
  rw [kit_lst_list]
theorem kit_lst_tuple : kitB "list" "tuple" = some false := by decide +kernel
@[simp] theorem isi_lst_tuple (b : List D) : isiD "tuple" (.lst b) = .ok (.bl false) := by
  show (match kitB "list" "tuple" with | some b => Res.ok (D.bl b) | none => .bad) = _
  rw [kit_lst_tuple]
theorem kit_lst_str : kitB "list" "str" = some false := by decide +kernel
@[simp] theorem isi_lst_str (b : List D) : isiD "str" (.lst b) = .ok (.bl false) := by
  show (match kitB "list" "str" with | some b => Res.ok (D.bl b) | none => .bad) = _
  rw [kit_lst_str]
theorem kit_lst_int : kitB "list" "int" = some false := by decide +kernel
@[simp] theorem isi_lst_int (b : List D) : isiD "int" (.lst b) = .ok (.bl false) := by
  show (match kitB "list" "int" with | some b => Res.ok (D.bl b) | none => .bad) = _
  rw [kit_lst_int]
theorem kit_lst_bool : kitB "list" "bool" = some false := by decide +kernel
@[simp] theorem isi_lst_bool (b : List D) : isiD "bool" (.lst b) = .ok (.bl false) := by
  show (match kitB "list" "bool" with | some b => Res.ok (D.bl b) | none => .bad) = _
  rw [kit_lst_bool]
theorem kit_tup_dict : kitB "tuple" "dict" = some false := by decide +kernel
@[simp] theorem isi_tup_dict (b : List D) : isiD "dict" (.tup b) = .ok (.bl false) := by
  show (match kitB "tuple" "dict" with | some b => Res.ok (D.bl b) | none => .bad) = _
  rw [kit_tup_dict]
theorem kit_tup_list : kitB "tuple" "list" = some false := by decide +kernel
@[simp] theorem isi_tup_list (b : List D) : isiD "list" (.tup b) = .ok (.bl false) := by
  show (match kitB "tuple" "list" with | some b => Res.ok (D.bl b) | none => .bad) = _
  rw [kit_tup_list]
theorem kit_tup_tuple : kitB "tuple" "tuple" = some true := by decide +kernel
@[simp] theorem isi_tup_tuple (b : List D) : isiD "tuple" (.tup b) = .ok (.bl true) := by
  show (match kitB "tuple" "tuple" with | some b => Res.ok (D.bl b) | none => .bad) = _
  rw [kit_tup_tuple]
theorem kit_tup_str : kitB "tuple" "str" = some false := by decide +kernel
@[simp] theorem isi_tup_str (b : List D) : isiD "str" (.tup b) = .ok (.bl false) := by
  show (match kitB "tuple" "str" with | some b => Res.ok (D.bl b) | none => .bad) = _
  rw [kit_tup_str]
theorem kit_tup_int : kitB "tuple" "int" = some false := by decide +kernel
@[simp] theorem isi_tup_int (b : List D) : isiD "int" (.tup b) = .ok (.bl false) := by
  show (match kitB "tuple" "int" with | some b => Res.ok (D.bl b) | none => .bad) = _
  rw [kit_tup_int]
theorem kit_tup_bool : kitB "tuple" "bool" = some false := by decide +kernel
@[simp] theorem isi_tup_bool (b : List D) : isiD "bool" (.tup b) = .ok (.bl false) := by
  show (match kitB "tuple" "bool" with | some b => Res.ok (D.bl b) | none => .bad) = _
  rw [kit_tup_bool]
theorem kit_dic_dict : kitB "dict" "dict" = some true := by decide +kernel
@[simp] theorem isi_dic_dict (t : Bool) (b : List (D × D)) : isiD "dict" (.dic t b) = .ok (.bl true) := by
  show (match kitB "dict" "dict" with | some b => Res.ok (D.bl b) | none => .bad) = _
  rw [kit_dic_dict]
theorem kit_dic_list : kitB "dict" "list" = some false := by decide +kernel
@[simp] theorem isi_dic_list (t : Bool) (b : List (D × D)) : isiD "list" (.dic t b) = .ok (.bl false) := by
  show (match kitB "dict" "list" with | some b => Res.ok (D.bl b) | none => .bad) = _
  rw [kit_dic_list]
theorem kit_dic_tuple : kitB "dict" "tuple" = some false := by decide +kernel
@[simp] theorem isi_dic_tuple (t : Bool) (b : List (D × D)) : isiD "tuple" (.dic t b) = .ok (.bl false) := by
  show (match kitB "dict" "tuple" with | some b => Res.ok (D.bl b) | none => .bad) = _
  rw [kit_dic_tuple]
theorem kit_dic_str : kitB "dict" "str" = some false := by decide +kernel
@[simp] theorem isi_dic_str (t : Bool) (b : List (D × D)) : isiD "str" (.dic t b) = .ok (.bl false) := by
  show (match kitB "dict" "str" with | some b => Res.ok (D.bl b) | none => .bad) = _
  rw [kit_dic_str]
theorem kit_dic_int : kitB "dict" "int" = some false := by decide +kernel
@[simp] theorem isi_dic_int (t : Bool) (b : List (D × D)) : isiD "int" (.dic t b) = .ok (.bl false) := by
  show (match kitB "dict" "int" with | some b => Res.ok (D.bl b) | none => .bad) = _
  rw [kit_dic_int]
theorem kit_dic_bool : kitB "dict" "bool" = some false := by decide +kernel
@[simp] theorem isi_dic_bool (t : Bool) (b : List (D × D)) : isiD "bool" (.dic t b) = .ok (.bl false) := by
  show (match kitB "dict" "bool" with | some b => Res.ok (D.bl b) | none => .bad) = _
  rw [kit_dic_bool]
theorem blsOf_rep : ∀ n : Nat, blsOf ((List.range n).map fun _ => D.bl true) = some (List.replicate n true)
  | 0 => rfl
  | n + 1 => by
    rw [List.range_succ_eq_map, List.map_cons, List.map_map, List.replicate_succ]
    show (blsOf ((List.range n).map ((fun _ => D.bl true) ∘ Nat.succ))).map (true :: ·) = _
    rw [show ((fun _ => D.bl true) ∘ Nat.succ : Nat → D) = fun _ => D.bl true from rfl, blsOf_rep n]
    rfl
theorem all_rep (n : Nat) : allD (.lst ((List.range n).map fun _ => D.bl true)) = .ok (.bl true) := by
  show (match blsOf ((List.range n).map fun _ => D.bl true) with | some bs => Res.ok (D.bl (bs.all id)) | none => .bad) = _
  rw [blsOf_rep]
  simp
end DL
namespace DL
open PySem PySem.Spec L2
theorem forM_all {t : Tgt} {b : SM} (I : Ev → Prop) (c : D → Bool) (d0 : D) : ∀ (ds : List D) (ρ : Ev), I ρ → (∀ d ρ, d ∈ ds → I ρ → ∃ ρ1 ρ2, t d ρ = .ok ρ1 ∧ b ρ1 = (if c d = true then .ok (.nx, ρ2) else .ok (.rt d0, ρ2)) ∧ I ρ2) →
    ∃ ρ', forM t b ds ρ = (if ds.all c = true then .ok (.nx, ρ') else .ok (.rt d0, ρ')) ∧ I ρ'
  | [], ρ, h, _ => ⟨ρ, rfl, h⟩
  | d :: ds, ρ, h, st => by
    obtain ⟨ρ1, ρ2, h1, h2, h3⟩ := st d ρ List.mem_cons_self h
    unfold forM
    rw [h1]
    dsimp only
    rw [h2]
    cases q : c d with
    | false => exact ⟨ρ2, by rw [List.all_cons, q]; rfl, h3⟩
    | true =>
      obtain ⟨ρ', h4, h5⟩ := forM_all I c d0 ds ρ2 h3 fun d ρ hd hI => st d ρ (List.mem_cons_of_mem _ hd) hI
      refine ⟨ρ', ?_, h5⟩
      rw [if_pos rfl]
      dsimp only
      rw [h4, List.all_cons, q, Bool.true_and]
@[simp] theorem noX_ok (f : SM) (ρ : Ev) (a : Fl × Ev) (h : f ρ = .ok a) : noX f ρ = .ok a := by unfold noX; rw [h]
end DL
/-! DL15: slices, list.index, dict.get. -/
namespace DL
open PySem PySem.Spec L2
set_option autoImplicit false
/-! ### slices -/
def cutD (xs : List D) (lo hi : Option Int) : List D := (xs.drop (HT.sIx xs.length 0 lo)).take (HT.sIx xs.length xs.length hi - HT.sIx xs.length 0 lo)
theorem cut_reps {K : Frag} {F : Hp} {xs : List D} {vs : List V} (h : Reps K F xs vs) (lo hi : Option Int) : Reps K F (cutD xs lo hi) (cutV vs lo hi) := by
  unfold cutD cutV
  rw [h.length]
  exact (h.drop _).take _
def slLD (x : D) (lo hi : Option Int) : Res D := match x with
  | .lst xs => .ok (.lst (cutD xs lo hi))
  | _ => .bad
def slTD (x : D) (lo hi : Option Int) : Res D := match x with
  | .tup xs => if HT.sIx xs.length 0 lo = 0 ∧ HT.sIx xs.length xs.length hi = xs.length then .bad else .ok (.tup (cutD xs lo hi))
  | _ => .bad
theorem slLD_nx (x : D) (lo hi : Option Int) : Noex (slLD x lo hi) := fun e h => by unfold slLD at h; split at h <;> cases h
theorem slTD_nx (x : D) (lo hi : Option Int) : Noex (slTD x lo hi) := fun e h => by unfold slTD at h; split at h <;> first | cases h | (split at h <;> cases h)
def gI : D → Res (Option Int)
  | .int i => .ok (some i)
  | _ => .bad
theorem gI_nx (x : D) : Noex (gI x) := fun e h => by unfold gI at h; split at h <;> cases h
def rP : Gh → Ev → L2.St → Hp → Hp → Option Int → Option Int → Prop := fun _ _ _ _ _ o o' => o' = o
section
variable {X : Cx} {E : XK} {os : List Bool} {e : Expr} {lo hi : Option Expr} {pos p2 : Pos} {fe : EM D} {fl fh : EM (Option Int)}
abbrev sP (K : Frag) (E : XK) (os : List Bool) (f : EM (Option Int)) : TO := tG K E os rP f
theorem PO.weak {t t' : TO} (h : PO X lo t) (w : ∀ σ H Q, t' σ H Q → t σ H Q) : PO X lo t' := ⟨fun pins s σ H Q I q => h.run pins s σ H Q I (w σ H Q q)⟩
theorem dp_none : PO X none (sP X.K E os (eRet none)) := PO.weak po_none fun σ H Q ⟨g, ρ, F, r, w⟩ => w none H F r FLe.refl rfl
theorem dp_some (h : PE X e (sV X.K E os fe)) : PO X (some e) (sP X.K E os (e1 gI fe)) := PO.weak (po_some h) fun σ H Q ⟨g, ρ, F, r, w⟩ => by
  refine tG.bind r w fun d v ρ1 H1 F1 hR1 le1 rx w1 => ?_
  obtain ⟨o, eo, w2⟩ := w1.lift2 (gI_nx _)
  unfold gI at eo
  split at eo
  · rename_i i
    cases eo
    cases (show v = .int i from rx)
    exact ⟨i, rfl, w2 (some i) H1 F1 hR1 FLe.refl rfl⟩
  · cases eo
def eSl (g : D → Option Int → Option Int → Res D) (fe : EM D) (fl fh : EM (Option Int)) : EM D := eBind fe fun x => eBind fl fun l => eBind fh fun u => eLift (g x l u)
def eSlN (g : D → Option Int → Option Int → Res D) (i : Nat) (fl fh : EM (Option Int)) : EM D := eBind (eVar i) fun _ => eBind fl fun l => eBind fh fun u => eBind (eVar i) fun x => eLift (g x l u)
theorem do_slice (he : PE X e (sD X.K E os fe)) (hl : PO X lo (sP X.K E os fl)) (hu : PO X hi (sP X.K E os fh)) : PE X (.Subscript e (.Slice lo hi none p2) pos) (sO X.K E os (eSl slLD fe fl fh)) := PE.weak (pe_slice sl_list he hl hu) fun σ H Q ⟨g, ρ, F, r, w⟩ => by
  refine tG.bind r w fun d v ρ1 H1 F1 hR1 le1 rx w1 => ?_
  refine tG.bind hR1 w1 fun l l' ρ2 H2 F2 hR2 le2 rl w2 => ?_
  refine tG.bind hR2 w2 fun u u' ρ3 H3 F3 hR3 le3 ru w3 => ?_
  cases (show l' = l from rl)
  cases (show u' = u from ru)
  obtain ⟨x, ex, w4⟩ := w3.lift2 (slLD_nx _ _ _)
  unfold slLD at ex
  split at ex
  · rename_i xs
    cases ex
    obtain ⟨a, vs, ea, ha, hr⟩ := rx
    have hr3 := Reps.mono (le2.trans le3) _ _ hr
    refine ⟨a, vs, ea, (ha.mono (le2.trans le3)).sq hR3.sub, fun p hp => ?_⟩
    exact w4 (.ref p) _ F3 (hR3.laid hp) FLe.refl ⟨p, rfl, Free.new hR3 hp ⟨_, upd_same, cut_reps hr3 l u⟩⟩
  · cases ex
theorem do_sliceN {i : Nat} (he : PE X e (tVar i)) (hl : PO X lo (sP X.K E os fl)) (hu : PO X hi (sP X.K E os fh)) : PE X (.Subscript e (.Slice lo hi none p2) pos) (sO X.K E os (eSlN slLD i fl fh)) := PE.weak (pe_slice sl_list he hl hu) fun σ H Q ⟨g, ρ, F, r, w⟩ => by
  obtain ⟨d0, h0, w0⟩ := w.var
  obtain ⟨v, hv, _⟩ := r.view h0
  refine ⟨v, hv, ?_⟩
  refine tG.bind r w0 fun l l' ρ2 H2 F2 hR2 le2 rl w2 => ?_
  refine tG.bind hR2 w2 fun u u' ρ3 H3 F3 hR3 le3 ru w3 => ?_
  cases (show l' = l from rl)
  cases (show u' = u from ru)
  obtain ⟨d, h1, w4⟩ := w3.var
  obtain ⟨v', hv', vx⟩ := hR3.view h1
  rw [hv] at hv'
  cases hv'
  obtain ⟨x, ex, w5⟩ := w4.lift2 (slLD_nx _ _ _)
  unfold slLD at ex
  split at ex
  · rename_i xs
    cases ex
    obtain ⟨a, vs, ea, ha, hr⟩ := vx
    refine ⟨a, vs, ea, ha, fun p hp => ?_⟩
    exact w5 (.ref p) _ F3 (hR3.laid hp) FLe.refl ⟨p, rfl, Free.new hR3 hp ⟨_, upd_same, cut_reps hr l u⟩⟩
  · cases ex
/-- t[lo:hi], not the whole -/
theorem de_slice (he : PE X e (sD X.K E os fe)) (hl : PO X lo (sP X.K E os fl)) (hu : PO X hi (sP X.K E os fh)) : PE X (.Subscript e (.Slice lo hi none p2) pos) (sD X.K E os (eSl slTD fe fl fh)) := PE.weak (pe_slice sl_tup he hl hu) fun σ H Q ⟨g, ρ, F, r, w⟩ => by
  refine tG.bind r w fun d v ρ1 H1 F1 hR1 le1 rx w1 => ?_
  refine tG.bind hR1 w1 fun l l' ρ2 H2 F2 hR2 le2 rl w2 => ?_
  refine tG.bind hR2 w2 fun u u' ρ3 H3 F3 hR3 le3 ru w3 => ?_
  cases (show l' = l from rl)
  cases (show u' = u from ru)
  obtain ⟨x, ex, w4⟩ := w3.lift2 (slTD_nx _ _ _)
  unfold slTD at ex
  split at ex
  · rename_i xs
    split at ex
    · cases ex
    · rename_i hw
      cases ex
      obtain ⟨a, vs, ea, ha, hr⟩ := rx
      have hr3 := Reps.mono (le2.trans le3) _ _ hr
      refine ⟨a, vs, ea, (ha.mono (le2.trans le3)).sq hR3.sub, by rw [hr.length]; exact hw, fun p hp => ?_⟩
      exact w4 (.ref p) _ _ (hR3.new hp (fun _ _ z => nomatch z)) (FLe.upd (hR3.none_of hp)) ⟨p, _, rfl, .inl upd_same, Reps.mono (FLe.upd (hR3.none_of hp)) _ _ (cut_reps hr3 l u)⟩
  · cases ex
end
/-! ### d.get -/
def getD1 (x q : D) : Res D := match x with
  | .dic false kvs => (match asKey q with
    | some _ => .ok ((lookD kvs q).getD .non)
    | none => .bad)
  | _ => .bad
def getD2 (x q z : D) : Res D := match x with
  | .dic false kvs => (match asKey q with
    | some _ => .ok ((lookD kvs q).getD z)
    | none => .bad)
  | _ => .bad
theorem getD1_nx (x q : D) : Noex (getD1 x q) := fun e h => by unfold getD1 at h; split at h <;> first | cases h | (split at h <;> cases h)
theorem getD2_nx (x q z : D) : Noex (getD2 x q z) := fun e h => by unfold getD2 at h; split at h <;> first | cases h | (split at h <;> cases h)
def eGet1 (fa fb : EM D) : EM D := eBind fa fun x => if isDic x = true then (eBind fb fun q => eLift (getD1 x q)) else fun _ => .bad
def eGet2 (fa fb fc : EM D) : EM D := eBind fa fun x => if isDic x = true then (eBind fb fun q => eBind fc fun z => eLift (getD2 x q z)) else fun _ => .bad
section
variable {X : Cx} {E : XK} {os : List Bool} {a e f : Expr} {apos cpos : Pos} {fa fb fc : EM D}
theorem get_read {K : Frag} {F H : Hp} {kvs : List (D × D)} {q : D} {k : Key} {v : Addr} {y : V} (hx : Rep K F (.dic false kvs) (.ref v)) (hs : ∀ a u, F a = some u → Rd' H a u) (hk : asKey q = some k) (hy : View K F H q y) :
    ∃ o, DGet H v y o ∧ ((lookD kvs q = none ∧ o = none) ∨ ∃ d w, lookD kvs q = some d ∧ o = some w ∧ Rep K F d w) := by
  obtain ⟨a, ea, h⟩ := hx
  cases ea
  rcases h with ⟨_, l, hf, hr⟩ | ⟨z, _⟩
  · have ek := asKey_eq hk
    have ey := key_view hk hy
    refine ⟨valV l k, .inl ⟨l, k, (hs _ _ hf).rd, ey, rfl⟩, ?_⟩
    rw [ek]
    exact hr.look
  · cases z
theorem de_get1 (hu : X.A.units + 1 < cLine) (ha : PE X a (sD X.K E os fa)) (he : PE X e (sV X.K E os fb)) (m : M1 X a "get" apos e cpos) : PE X (.Call (.Attribute a "get" apos) [e] [] cpos) (sD X.K E os (eGet1 fa fb)) := PE.weak (pe_dget1 hu ha he m) fun σ H Q ⟨g, ρ, F, r, w⟩ => by
  refine tG.bind r w fun d v ρ1 H1 F1 hR1 le1 rx w1 => ?_
  cases d with
  | dic t kvs =>
    rw [if_pos (show isDic (D.dic t kvs) = true from rfl)] at w1
    have isd : ∃ p, v = .ref p ∧ IsD H1 p := by
      obtain ⟨p, ep, h⟩ := rx
      rcases h with ⟨_, l, hf, _⟩ | ⟨_, l, hf, _⟩
      · exact ⟨p, ep, .inl ⟨l, (hR1.sub _ _ hf).rd⟩⟩
      · exact ⟨p, ep, .inr ⟨l, (hR1.sub _ _ hf).rd⟩⟩
    obtain ⟨p, rfl, isd⟩ := isd
    refine ⟨p, rfl, isd, tG.bind hR1 w1 fun q y ρ2 H2 F2 hR2 le2 ry w2 => ?_⟩
    obtain ⟨x, ex, w3⟩ := w2.lift2 (getD1_nx _ _)
    unfold getD1 at ex
    split at ex
    · rename_i kvs' heq
      cases heq
      split at ex
      · rename_i k hk
        cases ex
        obtain ⟨o, h1, h2⟩ := get_read (Rep.mono le2 _ _ rx) hR2.sub hk ry
        refine ⟨o, h1, w3 _ H2 F2 hR2 FLe.refl ?_⟩
        rcases h2 with ⟨z1, z2⟩ | ⟨d, u, z1, z2, z3⟩
        · rw [z1, z2]; rfl
        · rw [z1, z2]; exact z3
      · cases ex
    · cases ex
  | _ => exact w1.elim
theorem de_get2 (hu : X.A.units + 1 < cLine) (ha : PE X a (sD X.K E os fa)) (he : PE X e (sD X.K E os fb)) (hf : PE X f (sD X.K E os fc)) (m : M2 X a "get" apos e f cpos) : PE X (.Call (.Attribute a "get" apos) [e, f] [] cpos) (sD X.K E os (eGet2 fa fb fc)) := PE.weak (pe_dget2 hu ha he hf m) fun σ H Q ⟨g, ρ, F, r, w⟩ => by
  refine tG.bind r w fun d v ρ1 H1 F1 hR1 le1 rx w1 => ?_
  cases d with
  | dic t kvs =>
    rw [if_pos (show isDic (D.dic t kvs) = true from rfl)] at w1
    have isd : ∃ p, v = .ref p ∧ IsD H1 p := by
      obtain ⟨p, ep, h⟩ := rx
      rcases h with ⟨_, l, hf, _⟩ | ⟨_, l, hf, _⟩
      · exact ⟨p, ep, .inl ⟨l, (hR1.sub _ _ hf).rd⟩⟩
      · exact ⟨p, ep, .inr ⟨l, (hR1.sub _ _ hf).rd⟩⟩
    obtain ⟨p, rfl, isd⟩ := isd
    refine ⟨p, rfl, isd, tG.bind hR1 w1 fun q y ρ2 H2 F2 hR2 le2 ry w2 => ?_⟩
    refine tG.bind hR2 w2 fun z zv ρ3 H3 F3 hR3 le3 rz w3 => ?_
    obtain ⟨x, ex, w4⟩ := w3.lift2 (getD2_nx _ _ _)
    unfold getD2 at ex
    split at ex
    · rename_i kvs' heq
      cases heq
      split at ex
      · rename_i k hk
        cases ex
        obtain ⟨o, h1, h2⟩ := get_read (Rep.mono (le2.trans le3) _ _ rx) hR3.sub hk (Rep.view hR3.sub (Rep.mono le3 _ _ ry))
        refine ⟨o, h1, w4 _ H3 F3 hR3 FLe.refl ?_⟩
        rcases h2 with ⟨z1, z2⟩ | ⟨d, u, z1, z2, z3⟩
        · rw [z1, z2]; exact rz
        · rw [z1, z2]; exact z3
      · cases ex
    · cases ex
  | _ => exact w1.elim
end
/-! ### xs.index(e), flat items -/
def indexD (x q : D) : Res D := match x with
  | .lst xs => if flatD q = true ∧ xs.all flatD = true then (match xs.findIdx? (fun y => eqF y q) with
    | some j => .ok (.int j)
    | none => .bad) else .bad
  | _ => .bad
theorem indexD_nx (x q : D) : Noex (indexD x q) := fun e h => by unfold indexD at h; split at h <;> first | cases h | (split at h <;> first | cases h | (split at h <;> cases h))
def eIndex (fa fb : EM D) : EM D := eBind fa fun x => if isLst x = true then (eBind fb fun q => eLift (indexD x q)) else fun _ => .bad
section
variable {X : Cx} {E : XK} {os : List Bool} {a e : Expr} {apos cpos : Pos} {fa fb : EM D}
theorem de_index (ha : PE X a (sD X.K E os fa)) (he : PE X e (sD X.K E os fb))
    (hs : ∀ {t : TA} {to : TE}, PE X a to → PA X [e] t → PE X (.Call (.Attribute a "index" apos) [e] [] cpos) (tBM X.K "list" (rIndex X.K) to t)) (hs2 : starEach [e] X.env = (false, eval e X.env) :: starEach [] X.env := by rfl) :
    PE X (.Call (.Attribute a "index" apos) [e] [] cpos) (sD X.K E os (eIndex fa fb)) := PE.weak (hs ha (pa_cons he pa_nil hs2)) fun σ H Q ⟨g, ρ, F, r, w⟩ => by
  refine tG.bind r w fun d v ρ1 H1 F1 hR1 le1 rx w1 => ?_
  cases d with
  | lst xs =>
    rw [if_pos (show isLst (D.lst xs) = true from rfl)] at w1
    obtain ⟨p, vs, ep, hp, hr⟩ := rx
    subst ep
    refine ⟨.inl ⟨rfl, vs, hp.sq hR1.sub⟩, tG.bind hR1 w1 fun q y ρ2 H2 F2 hR2 le2 ry w2 => ?_⟩
    obtain ⟨x, ex, w3⟩ := w2.lift2 (indexD_nx _ _)
    have ex' : (if flatD q = true ∧ xs.all flatD = true then (match xs.findIdx? (fun y => eqF y q) with
      | some j => Res.ok (D.int j)
      | none => .bad) else .bad) = .ok x := ex
    by_cases hf : flatD q = true ∧ xs.all flatD = true
    · rw [if_pos hf] at ex'
      cases hj : xs.findIdx? (fun y => eqF y q) with
      | none => rw [hj] at ex'; cases ex'
      | some j =>
        rw [hj] at ex'
        cases ex'
        have hr2 := Reps.mono le2 _ _ hr
        obtain ⟨hjl, hjt, hjm⟩ := List.findIdx?_eq_some_iff_getElem.mp hj
        obtain ⟨z, hz, rz⟩ := hr2.get (List.getElem?_eq_getElem hjl)
        have fl : ∀ (m : Nat) (h : m < xs.length), flatD xs[m] = true := fun m h => List.all_eq_true.mp hf.2 _ (List.getElem_mem h)
        have vy := Rep.view hR2.sub ry
        refine ⟨p, vs, y, j, z, rfl, rfl, (hp.mono le2).sq hR2.sub, flat_rep hf.1 ry, all_flat hf.2 hr2, hz, ?_, fun m z' hm hz' => ?_, ?_⟩
        · rw [eqF_V hf.1 (fl j hjl) vy rz]; exact hjt
        · have hml : m < xs.length := by omega
          obtain ⟨z2, h2, r2⟩ := hr2.get (List.getElem?_eq_getElem hml)
          rw [hz'] at h2
          cases h2
          rw [eqF_V hf.1 (fl m hml) vy r2]
          have := hjm m hm
          simpa using this
        · exact w3 _ H2 F2 hR2 FLe.refl rfl
    · rw [if_neg hf] at ex'; cases ex'
  | _ => exact w1.elim
end
end DL
/-! DL16: dict comprehensions. -/
namespace DL
open PySem PySem.Spec L2
set_option autoImplicit false
def dcompM (vs : List Nat) (t : Tgt) (c : EM Bool) (ek e : EM D) : List D → Ev → List (D × D) → Res (List (D × D) × Ev)
  | [], ρ, acc => .ok (acc, ρ)
  | d :: ds, ρ, acc => match t d ρ with
    | .ok ρ1 => (match c ρ1 with
      | .ok (true, ρ2) => (match ek ρ2 with
        | .ok (k, ρ3) => (match e ρ3 with
          | .ok (v, ρ4) => (match asKey k with
            | some _ => if acc.length < sizeLine then dcompM vs t c ek e ds (wipeE ρ4 vs) (putD acc k v) else .bad
            | none => .bad)
          | _ => .bad)
        | _ => .bad)
      | .ok (false, ρ2) => dcompM vs t c ek e ds (wipeE ρ2 vs) acc
      | _ => .bad)
    | _ => .bad
def eDComp (vs : List Nat) (f : EM (List D)) (t : Tgt) (c : EM Bool) (ek e : EM D) : EM D := fun ρ => match f ρ with
  | .ok (ds, ρ1) => (match dcompM vs t c ek e ds (wipeE ρ1 vs) [] with
    | .ok (acc, ρ2) => .ok (.dic false acc, restE ρ1 vs ρ2)
    | _ => .bad)
  | _ => .bad
section
variable {K : Frag} {E : XK} {os : List Bool} {vs : List Nat} {t : Tgt} {f : EM (List D)} {c : EM Bool} {ek e : EM D}
/-- a comprehension is read -/
theorem dcomp_read {gt : TG} (hv : ∀ v ∈ vs, os[v]? = some false) (hg : RawT K os vs gt t) {σ : L2.St} {H : Hp} {Q : VK} (h : sO K E os (eDComp vs f t c ek e) σ H Q) : tDc (sI K E os f) gt (sB K E os c) (sD K E os ek) (sD K E os e) vs σ H Q := by
  obtain ⟨g, ρ, F, r, w⟩ := h
  refine ⟨g.at os ρ σ H F, ρ, F, r.rebase, ?_⟩
  unfold eDComp at w
  cases q : f ρ with
  | exc x => rw [q] at w; exact w.elim
  | bad => rw [q] at w; exact w
  | ok p =>
  obtain ⟨ds, ρ1⟩ := p
  rw [q] at w
  generalize hgb : g.at os ρ σ H F = gb
  have hkt : gb.kt = [] := by rw [← hgb]; rfl
  intro J H1 F1 hR1 le1 hJ D hD
  refine ⟨fun i m H2 => m = ds.length - i ∧ i ≤ ds.length ∧ ∃ ρ2 F2 acc va, R K gb os ρ2 (L2.wipe σ vs) H2 F2 ∧ FLe F1 F2 ∧ F2 D = none ∧ H2 D = some (.dK va) ∧ RepK K F2 acc va ∧ (∀ (j : Nat) (d : DL.D), os[j]? = some true → ρ2[j]? = some (some d) → (L2.wipe σ vs)[j]? ≠ some (some (.ref D))) ∧
    WG K E os g σ F (rO K os) Q (match dcompM vs t c ek e (ds.drop i) ρ2 acc with
      | .ok (acc, ρ2) => .ok (.dic false acc, restE ρ1 vs ρ2)
      | _ => .bad), ⟨ds.length, by simp, Nat.zero_le _, wipeE ρ1 vs, F1, [], [], (hR1.laid hD).wipe hv, FLe.refl, hR1.none_of hD, upd_same, rfl, fun j d h1 h2 h3 => ?_, w⟩, ?_⟩
  · have hj : j ∉ vs := fun z => by rw [hv j z] at h1; cases h1
    rw [wipeE_out hj] at h2
    rw [wipe_set_out hj] at h3
    obtain ⟨a, p1, _, p3, _⟩ := hR1.ow j d h1 h2
    rw [h3] at p1; cases p1
    obtain ⟨o, p4, _⟩ := p3.there
    rw [hD] at p4; cases p4
  · rintro i m H2 ⟨rfl, hi, ρ2, F2, acc, va, hR2, le2, hFD, hHD, hacc, hnD, w2⟩
    have hD0 : gb.H0 D = none := hR1.h0_none hD
    obtain ⟨hJ1, hJ2⟩ := hJ os ρ2 (L2.wipe σ vs) H2 F2 i hR2 le2
    by_cases hlt : i < ds.length
    · right
      obtain ⟨go, hy⟩ := hJ1 ds[i] (List.getElem?_eq_getElem hlt)
      have hd : ds.drop i = ds[i] :: ds.drop (i + 1) := List.drop_eq_getElem_cons hlt
      rw [hd] at w2
      refine ⟨go, fun H' => ∃ ρ3 F3 acc va, R K gb os ρ3 (L2.wipe σ vs) H' F3 ∧ FLe F1 F3 ∧ F3 D = none ∧ H' D = some (.dK va) ∧ RepK K F3 acc va ∧ (∀ (j : Nat) (d : DL.D), os[j]? = some true → ρ3[j]? = some (some d) → (L2.wipe σ vs)[j]? ≠ some (some (.ref D))) ∧
        WG K E os g σ F (rO K os) Q (match dcompM vs t c ek e (ds.drop (i + 1)) ρ3 acc with
          | .ok (acc, ρ2) => .ok (.dic false acc, restE ρ1 vs ρ2)
          | _ => .bad), fun H' hN => ⟨ds.length - (i + 1), by omega, rfl, hlt, hN⟩, fun x H' hyld => ?_⟩
      obtain ⟨F3, hR3, le3, hx, kp⟩ := hy x H' hyld
      have hHD3 : H' D = some (.dK va) := kp.1 _ _ hHD
      have hFD3 : F3 D = none := by
        cases z : F3 D with
        | none => rfl
        | some u =>
          rcases kp.2 D u z with y | y | ⟨xs, _, y⟩
          · rw [hFD] at y; cases y
          · rw [hHD] at y; cases y
          · rw [hHD] at y; cases y
      unfold dcompM at w2
      cases q1 : t ds[i] ρ2 with
      | exc x => rw [q1] at w2; exact w2.elim
      | bad => rw [q1] at w2; exact w2.elim
      | ok ρ3 =>
      rw [q1] at w2
      dsimp only at w2
      refine hg.go gb ρ2 ρ3 F3 H' ds[i] x (L2.wipe σ vs) _ hkt hR3 hx q1 fun σ1 a1 l1 b1 hR4 => ?_
      have ew : L2.wipe σ1 vs = L2.wipe σ vs := by
        refine wipe_congr (by rw [l1, wipe_length]) fun j hj => ?_
        rw [a1 j hj, wipe_out hj]
      have hn4 : ∀ (j : Nat) (d : DL.D), os[j]? = some true → ρ3[j]? = some (some d) → σ1[j]? ≠ some (some (.ref D)) := fun j d h1 h2 h3 => by
        have hj : j ∉ vs := fun z => by rw [hv j z] at h1; cases h1
        rw [b1 j hj] at h2
        rw [a1 j hj] at h3
        exact hnD j d h1 h2 h3
      refine ⟨ew, gb.at os ρ3 σ1 H' F3, ρ3, F3, hR4.rebase, ?_⟩
      cases q2 : c ρ3 with
      | exc x => rw [q2] at w2; exact w2.elim
      | bad => rw [q2] at w2; exact w2.elim
      | ok pr =>
      obtain ⟨k, ρ4⟩ := pr
      rw [q2] at w2
      intro k' H4 F4 k5 le4 ekk
      have ek' : k' = k := ekk
      subst ek'
      have hR5 := hR4.unbase k5
      have hHD4 := hR4.keeps k5 hHD3 trivial hn4
      have hFD4 := hR4.keepsF k5 hHD3 trivial hFD3
      have hn5 := own_free hn4 ⟨_, hHD3⟩ k5
      cases k' with
      | false =>
        rw [if_neg Bool.false_ne_true]
        refine ⟨wipeE ρ4 vs, F4, acc, va, by rw [← ew]; exact hR5.wipe hv, le2.trans (le3.trans le4), hFD4, hHD4, RepK.mono (le3.trans le4) _ _ hacc, fun j d h1 h2 h3 => ?_, w2⟩
        have hj : j ∉ vs := fun z => by rw [hv j z] at h1; cases h1
        rw [wipeE_out hj] at h2
        rw [← ew, wipe_out hj] at h3
        exact hn5 j d h1 h2 h3
      | true =>
        rw [if_pos rfl]
        refine ⟨gb.at os ρ4 σ1 H4 F4, ρ4, F4, hR5.rebase, ?_⟩
        dsimp only at w2
        cases q3 : ek ρ4 with
        | exc x => rw [q3] at w2; exact w2.elim
        | bad => rw [q3] at w2; exact w2.elim
        | ok pr =>
        obtain ⟨kd, ρ5⟩ := pr
        rw [q3] at w2
        intro yk H5 F5 k6 le5 hyk
        have hR6 := hR5.unbase k6
        have hHD5 := hR5.keeps k6 hHD4 trivial hn5
        have hFD5 := hR5.keepsF k6 hHD4 trivial hFD4
        have hn6 := own_free hn5 ⟨_, hHD4⟩ k6
        refine ⟨gb.at os ρ5 σ1 H5 F5, ρ5, F5, hR6.rebase, ?_⟩
        dsimp only at w2
        cases q4 : e ρ5 with
        | exc x => rw [q4] at w2; exact w2.elim
        | bad => rw [q4] at w2; exact w2.elim
        | ok pr =>
        obtain ⟨v, ρ6⟩ := pr
        rw [q4] at w2
        intro y H6 F6 k7 le6 hyv
        have hR7 := hR6.unbase k7
        have hHD6 := hR6.keeps k7 hHD5 trivial hn6
        have hFD6 := hR6.keepsF k7 hHD5 trivial hFD5
        have hn7 := own_free hn6 ⟨_, hHD5⟩ k7
        dsimp only at w2
        cases q5 : asKey kd with
        | none => rw [q5] at w2; exact w2.elim
        | some kk =>
        rw [q5] at w2
        dsimp only at w2
        have ekd := asKey_eq q5
        by_cases hz : acc.length < sizeLine
        · rw [if_pos hz] at w2
          have hacc6 := RepK.mono (le3.trans (le4.trans (le5.trans le6))) _ _ hacc
          refine ⟨va, kk, ?_, hHD6, by rw [hacc.length]; exact hz, wipeE ρ6 vs, F6, putD acc kd v, putK va kk y, ?_, le2.trans (le3.trans (le4.trans (le5.trans le6))), hFD6, upd_same, ?_, fun j d h1 h2 h3 => ?_, w2⟩
          · exact key_view q5 (Rep.view hR6.sub hyk)
          · rw [← ew]
            exact (hR7.touch hFD6 hD0 hHD6 trivial hn7).wipe hv
          · rw [ekd]; exact hacc6.put hyv
          · have hj : j ∉ vs := fun z => by rw [hv j z] at h1; cases h1
            rw [wipeE_out hj] at h2
            rw [← ew, wipe_out hj] at h3
            exact hn7 j d h1 h2 h3
        · rw [if_neg hz] at w2
          exact w2.elim
    · left
      have ei : i = ds.length := by omega
      subst ei
      refine ⟨hJ2 rfl, ?_⟩
      rw [List.drop_length] at w2
      have w3 : WG K E os g σ F (rO K os) Q (.ok (.dic false acc, restE ρ1 vs ρ2)) := w2
      have hRf : R K gb os (restE ρ1 vs ρ2) σ H2 F2 := R.restore hR1 hR2 le2 hv hkt
      have hnf : ∀ (j : Nat) (d : DL.D), os[j]? = some true → (restE ρ1 vs ρ2)[j]? = some (some d) → σ[j]? ≠ some (some (.ref D)) := fun j d h1 h2 h3 => by
        have hj : j ∉ vs := fun z => by rw [hv j z] at h1; cases h1
        rw [restE_out hj] at h2
        exact hnD j d h1 h2 (by rw [wipe_set_out hj]; exact h3)
      subst hgb
      exact w3 (.ref D) H2 F2 (r.unbase hRf) (le1.trans le2) ⟨D, rfl, hFD, .inl ⟨rfl, va, hHD, hacc⟩, r.h0_none hD0, hnf⟩
end
section
variable {X : Cx} {E : XK} {os : List Bool} {tg iter kx vx : Expr} {ifs : List Expr} {pos : Pos} {scope : Scope} {own : List (Str × Nat)} {t : Tgt} {f : EM (List D)} {c : EM Bool} {ek e : EM D} {gt : TG}
theorem do_dc (hc : X.calm = true) (hN : X.N.Nodup) (hi : PI X tg iter (sI X.K E os f)) (ok : BlkOk X.N X.env.scope scope own)
    (hg : ∀ (s : Shared) (H : Hp) (C : Addr) (cl : List (Str × Addr)) (fp : List Addr), PG (X.blk s H scope (compEnvC scope cl C X.env) fp) tg gt)
    (ht : ∀ (s : Shared) (H : Hp) (C : Addr) (cl : List (Str × Addr)) (fp : List Addr), PTs (X.blk s H scope (compEnvC scope cl C X.env) fp) ifs (sB X.K E os c))
    (hk : ∀ (s : Shared) (H : Hp) (C : Addr) (cl : List (Str × Addr)) (fp : List Addr), PE (X.blk s H scope (compEnvC scope cl C X.env) fp) kx (sD X.K E os ek))
    (he : ∀ (s : Shared) (H : Hp) (C : Addr) (cl : List (Str × Addr)) (fp : List Addr), PE (X.blk s H scope (compEnvC scope cl C X.env) fp) vx (sD X.K E os e))
    (hr : RawT X.K os (own.map (·.2)) gt t) (hv : ∀ v ∈ own.map (·.2), os[v]? = some false) (hs : ∀ x, foldedSetIterable iter X.env x = pure x := by intro _; rfl) :
    PE X (.DictComp kx vx [⟨tg, iter, ifs, 0⟩] scope pos) (sO X.K E os (eDComp (own.map (·.2)) f t c ek e)) := PE.weak (pe_dc hc hN hi ok hg ht hk he hs) fun σ H Q h => dcomp_read hv hr h
end
end DL
/-! DL17: enumerate, constants of the module. -/
namespace DL
open PySem PySem.Spec L2
set_option autoImplicit false
def enumL (ds : List D) : List D := (List.range ds.length).map fun (i : Nat) => D.tup [.int (i : Int), (ds[i]?).getD .non]
def gEnum : D → Res (List D)
  | .lst ds => .ok (enumL ds)
  | _ => .bad
theorem gEnum_nx (x : D) : Noex (gEnum x) := fun e h => by unfold gEnum at h; split at h <;> cases h
theorem ItD.enum {K : Frag} {g : Gh} {F : Hp} {ds : List D} {a : Addr} {vs : List V} (h : LAt K F a vs) (r : Reps K F ds vs) : ItD K g F (enumL ds) (Ite K a) := by
  intro os ρ σ H F' i hR le
  have hs := (h.mono le).sq hR.sub
  refine ⟨fun d hd => ?_, fun hl => ⟨vs, hs, by rw [r.length, ← hl]; unfold enumL; rw [List.length_map, List.length_range]; exact Nat.le_refl _⟩⟩
  unfold enumL at hd
  have hi : i < ds.length := by
    have := (List.getElem?_eq_some_iff.mp hd).1
    rw [List.length_map, List.length_range] at this
    exact this
  rw [List.getElem?_map, List.getElem?_range hi] at hd
  cases hd
  obtain ⟨v, hv, rv⟩ := r.get (List.getElem?_eq_getElem hi)
  refine ⟨⟨vs, v, hs, hv⟩, fun x H' ⟨T, y, ex, hT, eH, hx⟩ => ?_⟩
  subst ex
  subst eH
  have := hx vs hs
  rw [hv] at this
  cases this
  have hFT := hR.none_of hT
  refine ⟨upd F' T (.tup [.int (i : Nat), v]), hR.new hT (fun _ _ z => nomatch z), FLe.upd hFT, ⟨T, _, rfl, .inl upd_same, .int (i : Nat), [v], rfl, rfl, v, [], rfl, ?_, rfl⟩, fun b o e => upd_some hT e, fun b u e => ?_⟩
  · rw [List.getElem?_eq_getElem hi]
    exact Rep.mono (le.trans (FLe.upd hFT)) _ _ rv
  · by_cases hb : b = T
    · subst hb; exact .inr (.inl hT)
    · rw [upd_ne hb] at e; exact .inl e
section
variable {X : Cx} {E : XK} {os : List Bool} {e : Expr} {elts : List Expr} {kk : Nat} {p pos tpos : Pos} {fa : EM D}
theorem di_enum (hs : ∀ {t : TA}, PA X [e] t → PI X (.Tuple elts kk tpos) (.Call (.Name "enumerate" p) [e] [] pos) (iEnum X.K t)) (ha : PE X e (sD X.K E os fa)) (he : starEach [e] X.env = (false, eval e X.env) :: starEach [] X.env := by rfl) :
    PI X (.Tuple elts kk tpos) (.Call (.Name "enumerate" p) [e] [] pos) (sI X.K E os (e1 gEnum fa)) := PI.weak (hs (pa_cons ha pa_nil he)) fun σ H Q ⟨g, ρ, F, hR, w⟩ => by
  refine tG.bind hR w fun d v ρ1 H1 F1 hR1 le1 rx w1 => ?_
  obtain ⟨ds, ed, w3⟩ := w1.lift2 (gEnum_nx _)
  unfold gEnum at ed
  split at ed
  · rename_i xs
    cases ed
    obtain ⟨a, vs, ea, ha, hr⟩ := rx
    subst ea
    exact ⟨a, vs, rfl, ha.sq hR1.sub, w3 _ H1 F1 hR1 FLe.refl (.enum ha hr)⟩
  · cases ed
end
/-! a constant tuple of the module -/
theorem tup_glob {K : Frag} {x : Str} {vs : List He.Dv} {ds : List D} (h : He.tupB K x vs = true) (hd : ∀ F, Reps K F ds (vs.map (He.Dv.v K))) (F : Hp) : Rep K F (.tup ds) (.ref (He.ga K x)) := by
  have := He.tupB_ok h (fun _ => none)
  rcases this with (z | ⟨o, z⟩) | z
  · cases z
  · cases z
  · exact ⟨_, _, rfl, .inr z, hd F⟩
theorem de_glob {X : Cx} {E : XK} {os : List Bool} {x : Str} {pos : Pos} {vs : List He.Dv} {ds : List D} (hg : Gl X x) (hm : X.mg x = some (.ref (He.ga X.K x))) (h : He.tupB X.K x vs = true) (hd : ∀ F, Reps X.K F ds (vs.map (He.Dv.v X.K))) (hdb : (x == ("__debug__" : Str)) = false := by decide) : PE X (.Name x pos) (sD X.K E os (eRet (.tup ds))) :=
  de_con (pe_glob hg hm (v := .ref (He.ga X.K x)) rfl hdb) (tup_glob h hd)
/-! a < b < c as a value -/
section
variable {X : Cx} {E : XK} {os : List Bool} {a b c : Expr} {pos : Pos} {fa fb fc : EM D}
theorem de_chain {op op' : CmpOp} {r r' : R2} {g1 g2 : D → D → Res Bool} (ho : OpR X (compareOp op) r) (ho' : OpR X (compareOp op') r') (hg : Op2B X.K os r g1) (hg' : Op2B X.K os r' g2) (hn : ∀ x y, Noex (g1 x y)) (hn' : ∀ x y, Noex (g2 x y)) (ha : PE X a (sD X.K E os fa)) (hb : PE X b (sD X.K E os fb)) (hc : PE X c (sV X.K E os fc))
    (hm : lastMarks [op, op'] [b, c] = false := by with_unfolding_all rfl) : PE X (.Compare a [op, op'] [b, c] pos) (sD X.K E os (eBl (eChain (α := Unit) g1 g2 fa fb fc))) := PE.weak (pe_chain ho ho' ha hb hc hm) fun σ H Q h => by
  obtain ⟨g, ρ, F, hR, w⟩ := rBl h
  refine tG.bind hR w fun dx x ρ1 H1 F1 hR1 le1 rx w1 => ?_
  refine tG.bind hR1 w1 fun dy y ρ2 H2 F2 hR2 le2 ry w2 => ?_
  have w2' : WG X.K E os g σ F2 rB (fun b H' => Q (.bl b) H') ((eBind (eLift (g1 dx dy)) fun k => if k = true then (eBind fc fun z => eLift (g2 dy z)) else eRet false) ρ2) := w2
  cases q : g1 dx dy with
  | exc e => exact absurd q (hn _ _ e)
  | bad =>
    unfold eBind eLift at w2'
    rw [q] at w2'
    exact w2'.elim
  | ok k =>
    unfold eBind eLift at w2'
    rw [q] at w2'
    refine hg g ρ2 σ H2 F2 x y dx dy k _ hR2 (Rep.view hR2.sub (Rep.mono le2 _ _ rx)) (Rep.view hR2.sub ry) q fun H' F' hR3 le3 => ⟨k, rfl, ?_⟩
    cases k with
    | false =>
      rw [if_neg (by decide)]
      exact (show WG X.K E os g σ F2 rB (fun b H' => Q (.bl b) H') (.ok (false, ρ2)) from w2') false H' F' hR3 le3 rfl
    | true =>
      rw [if_pos rfl]
      have w3 : WG X.K E os g σ F' rB (fun b H' => Q (.bl b) H') ((eBind fc fun z => eLift (g2 dy z)) ρ2) := WG.mono le3 w2'
      refine tG.bind hR3 w3 fun dz z ρ4 H4 F4 hR4 le4 rz w4 => ?_
      obtain ⟨d, ed, w5⟩ := w4.lift2 (hn' _ _)
      exact hg' g ρ4 σ H4 F4 y z dy dz d _ hR4 (Rep.view hR4.sub (Rep.mono (le3.trans le4) _ _ ry)) rz ed fun H' F' q l => w5 _ H' F' q l rfl
end
/-! xs.extend(a new list) -/
def extD (x q : D) : Res (D × D) := match x, q with
  | .lst xs, .lst ys => if xs.length + ys.length ≤ sizeLine then .ok (.lst (xs ++ ys), .non) else .bad
  | _, _ => .bad
theorem extD_nx (x q : D) : Noex (extD x q) := fun e h => by unfold extD at h; split at h <;> first | cases h | (split at h <;> cases h)
def eExt (i : Nat) (f : EM D) : EM D := eBind (eVar i) fun x0 => if isLst x0 = true then (eBind f fun q => eUpd i fun x => extD x q) else fun _ => .bad
section
variable {X : Cx} {E : XK} {os : List Bool} {a e : Expr} {apos pos : Pos} {fa : EM D}
theorem de_ext {i : Nat} (ho : os[i]? = some true) (hx : PE X a (tVar i)) (he : PE X e (sO X.K E os fa))
    (hs : ∀ {t : TA}, PA X [e] t → PE X (.Call (.Attribute a "extend" apos) [e] [] pos) (tBM X.K "list" rExtend (tVar i) t)) (hs2 : starEach [e] X.env = (false, eval e X.env) :: starEach [] X.env := by rfl) :
    PE X (.Call (.Attribute a "extend" apos) [e] [] pos) (sD X.K E os (eExt i fa)) := PE.weak (hs (pa_cons he pa_nil hs2)) fun σ H Q ⟨g, ρ, F, r0, w⟩ => by
  obtain ⟨x0, h0, w1⟩ := w.var
  obtain ⟨a0, hov, _, own0, _⟩ := r0.ow i x0 ho h0
  cases x0 with
  | lst xs0 =>
    rw [if_pos (show isLst (D.lst xs0) = true from rfl)] at w1
    obtain ⟨vs0, hvs0, _⟩ := own0
    refine ⟨.ref a0, hov, .inl ⟨rfl, vs0, .inl (.inl hvs0)⟩, tG.bind r0 w1 fun q y ρ2 H2 F2 hR2 le2 ry w3 => ?_⟩
    obtain ⟨x1, x', d', h1, e1, w4⟩ := WG.upd1 (fun _ => extD_nx _ _) w3
    unfold extD at e1
    split at e1
    · rename_i xs ys
      split at e1
      · rename_i hl
        cases e1
        obtain ⟨a1, q1, q2, ⟨vs, q3, q4⟩, _⟩ := hR2.ow i _ ho h1
        rw [hov] at q1
        cases q1
        obtain ⟨b, eb, fr⟩ := ry
        subst eb
        obtain ⟨zs, z1, z2⟩ := fr.own
        exact ⟨a0, b, vs, zs, rfl, rfl, q3, z1, by rw [q4.length, z2.length]; exact hl, w4 .non _ F2 (hR2.write ho h1 hov ⟨_, upd_same, q4.append z2⟩) FLe.refl rfl⟩
      · cases e1
    · cases e1
  | _ => exact w1.elim
end
end DL
/-! DL18: y = [.. for k in NAME]. -/
namespace DL
open PySem PySem.Spec L2
set_option autoImplicit false
section
variable {X : Cx} {E : XK} {md : Md} {os : List Bool} {st : Stmt}
theorem WS.setO {K : Frag} {g : Gh} {σ : L2.St} {F : Hp} {Dn : Ends} {i : Nat} {fa : EM D} {ρ : Ev} (hp : Stat g md) (hi : i ∉ md.pp) (hk : i ∉ md.kt) (w : WS K E md (os.set i true) g F Dn (sSet i fa ρ)) : WG K E os g σ F (rO K os) (fun v H => Dn.nx (σ.set i (some v)) H) (fa ρ) := by
  unfold sSet at w
  cases q : fa ρ with
  | ok p =>
    obtain ⟨d, ρ'⟩ := p
    rw [q] at w
    intro v H' F' hR le ⟨a, ea, fr⟩
    subst ea
    exact w _ H' F' (hR.own (pin_not hp hi) (kt_not hp hk) fr.f fr.own fr.h0 fun j e _ h1 h2 => fr.ne j e h1 h2) le
  | exc x => rw [q] at w; exact w
  | bad => rw [q] at w; exact w
/-- the keys of the dict in slot j, or the items of the list there -/
theorem ds_setA {i j : Nat} {vs : List Nat} {gt : TG} {t : Tgt} {c : EM Bool} {e : EM D} (ho : os[j]? = some false)
    (hk : PS X st (tAsg (tLc (fun σ H Q => Lkd σ H j ∧ sI X.K E os (e1 gKeys (eVar j)) σ H Q) gt (sB X.K E os c) (sD X.K E os e) vs) (gName i)))
    (hs : PS X st (tAsg (tLc (sI X.K E os (e1 gItems (eVar j))) gt (sB X.K E os c) (sD X.K E os e) vs) (gName i)))
    (hr : RawT X.K os vs gt t) (hv : ∀ v ∈ vs, os[v]? = some false) (hi : i ∉ md.pp) (hkt : i ∉ md.kt) : PS X st (tS X.K E md os (os.set i true) (sSet i (eCompA vs j t c e))) :=
  PS.weak (PS.or (PS.or (ps_lock hk) hk) (ds_setW (fa := eComp vs (e1 gItems (eVar j)) t c e) hs (fun _ _ _ h => comp_read hv hr h) hi hkt)) fun σ H Dn ⟨g, ρ, F, r, hp, w⟩ => by
    have els : eCompA vs j t c e ρ = eComp vs (e1 gItems (eVar j)) t c e ρ → ((tLock (tAsg (tLc (fun σ H Q => Lkd σ H j ∧ sI X.K E os (e1 gKeys (eVar j)) σ H Q) gt (sB X.K E os c) (sD X.K E os e) vs) (gName i)) Dn σ H ∨ tAsg (tLc (fun σ H Q => Lkd σ H j ∧ sI X.K E os (e1 gKeys (eVar j)) σ H Q) gt (sB X.K E os c) (sD X.K E os e) vs) (gName i) Dn σ H) ∨ tS X.K E md os (os.set i true) (sSet i (eComp vs (e1 gItems (eVar j)) t c e)) Dn σ H) := fun z => by
      refine .inr ⟨g, ρ, F, r, hp, ?_⟩
      unfold sSet at w ⊢
      rw [z] at w
      exact w
    cases q : ρ[j]? with
    | none => exact els (by unfold eCompA; rw [q])
    | some o =>
      cases o with
      | none => exact els (by unfold eCompA; rw [q])
      | some d =>
        cases d with
        | dic tt kvs =>
          left
          have w0 := WS.setO (σ := σ) hp hi hkt w
          have z : eCompA vs j t c e ρ = eComp vs (e1 gKeys (eVar j)) t c e ρ := by unfold eCompA; rw [q]
          rw [z] at w0
          obtain ⟨v, e1', e2⟩ := r.fz j _ ho q
          obtain ⟨a, ea, e2⟩ := e2
          subst ea
          have go : ∀ u, F a = some u → Mut (some u) → (tLock (tAsg (tLc (fun σ H Q => Lkd σ H j ∧ sI X.K E os (DL.e1 gKeys (eVar j)) σ H Q) gt (sB X.K E os c) (sD X.K E os e) vs) (gName i)) Dn σ H ∨ tAsg (tLc (fun σ H Q => Lkd σ H j ∧ sI X.K E os (DL.e1 gKeys (eVar j)) σ H Q) gt (sB X.K E os c) (sD X.K E os e) vs) (gName i) Dn σ H) := fun u hf mu => by
            rcases r.sub a _ hf with hh | ⟨_, od, hh⟩
            · left
              obtain ⟨n1, n2⟩ := r.lock_facts hh hf mu
              exact ⟨a, u, hh, mu, fun od => ⟨⟨a, od, u, e1', upd_same⟩, comp_read hv hr ⟨_, ρ, F, r.lockd od hh hf mu, WG.lockO n1 n2 eComp_nx w0⟩⟩⟩
            · right
              exact ⟨⟨a, od, u, e1', hh⟩, comp_read hv hr ⟨g, ρ, F, r, w0⟩⟩
          rcases e2 with ⟨_, l, hf, hk⟩ | ⟨_, l, hf, hk⟩
          · exact go _ hf trivial
          · exact go _ hf trivial
        | _ => exact els (by unfold eCompA; rw [q])
end
end DL
/-! DL19: sorted, of all that compares. -/
namespace DL
open PySem PySem.Spec L2
set_option autoImplicit false
open PySem.W (EachIs dataLe AllAlike Sortable dataLt alike)
def encP (d : D) : PyData := (toP d).getD .none
def tupB : PyData → Bool
  | .tuple (_ :: _) => true
  | _ => false
def oneB : PyData → Bool
  | .none => false
  | .tuple _ => false
  | _ => true
/-- the data can be compared, each with each -/
def cmpAll (ps : List PyData) : Bool := (ps.all fun p => ps.all fun q => alike p q) && (ps.all tupB || ps.all oneB) && ps.all fun p => decide (p.depth ≤ 40)
theorem cmpAll_spec {ps : List PyData} (h : cmpAll ps = true) : AllAlike ps ∧ Sortable ps ∧ ∀ p ∈ ps, p.depth ≤ 40 := by
  unfold cmpAll at h
  simp only [Bool.and_eq_true, Bool.or_eq_true, List.all_eq_true, decide_eq_true_eq] at h
  obtain ⟨⟨h1, h2⟩, h3⟩ := h
  refine ⟨fun d hd d' hd' => h1 d hd d' hd', ?_, h3⟩
  rcases h2 with h2 | h2
  · refine .inl fun d hd => ?_
    have := h2 d hd
    unfold tupB at this
    split at this
    · exact ⟨_, _, rfl⟩
    · cases this
  · refine .inr fun d hd => ?_
    have := h2 d hd
    unfold oneB at this
    split at this
    · cases this
    · cases this
    · rename_i h4 h5
      exact ⟨h4, h5⟩
def rSortP (K : Frag) : List V → Hp → VK → Prop := fun vs H Q => ∃ (a : Addr) (xs : List V) (ps : List PyData), vs = [V.ref a] ∧ SqL K H a xs ∧ DpAll K H xs ps ∧ cmpAll ps = true ∧
  ∀ p ys, (∀ (β : Type) (bs : List β) (enc : β → PyData) (R : V → β → Prop), bs.map enc = ps → EachIs R xs bs → EachIs R ys (bs.mergeSort (dataLe false enc))) → H p = none → Q (.ref p) (upd H p (.lst ys))
theorem dpAll_len {K : Frag} {H : Hp} : ∀ {xs : List V} {ps : List PyData}, DpAll K H xs ps → xs.length = ps.length
  | _, _, .nil => rfl
  | _, _, .cons _ h => by rw [List.length_cons, List.length_cons, dpAll_len h]
theorem each_rel {X : Cx} {pins : List (Addr × Obj)} {σ : L2.St} {H : Hp} {s : Shared} (I : Inv X pins σ H s) : ∀ {xs : List V} {ps : List PyData} {us : List Value}, DpAll X.K H xs ps → Vals xs us → EachIs (fun u p => ∃ as, Reads s.heap u p as) us ps
  | _, _, _, .nil, r => by cases r; exact .nil
  | _, _, _, .cons h t, r => by
    cases r with
    | cons r1 r2 =>
      obtain ⟨as, q⟩ := Dp.reads I _ _ _ h r1
      exact .cons ⟨as, q⟩ (each_rel I t r2)
theorem each_vals : ∀ {xs : List V} {us : List Value}, Vals xs us → EachIs RelV xs us
  | _, _, .nil => .nil
  | _, _, .cons h t => .cons h (each_vals t)
theorem vals_each : ∀ {xs : List V} {us : List Value}, EachIs RelV xs us → Vals xs us
  | _, _, .nil => .nil
  | _, _, .cons h t => .cons h (vals_each t)
theorem each_swap {α β : Type} {R : α → β → Prop} : ∀ {as : List α} {bs : List β}, EachIs R as bs → EachIs (fun b a => R a b) bs as
  | _, _, .nil => .nil
  | _, _, .cons h t => .cons h (each_swap t)
/-- three lists that go together -/
theorem each_zip {α β γ : Type} {R : α → β → Prop} {S : α → γ → Prop} : ∀ {as : List α} {bs : List β} {cs : List γ}, EachIs R as bs → EachIs S as cs → EachIs (fun a (p : β × γ) => R a p.1 ∧ S a p.2) as (bs.zip cs)
  | _, _, _, .nil, .nil => .nil
  | _, _, _, .cons h t, .cons h' t' => .cons ⟨h, h'⟩ (each_zip t t')
theorem each_mapl {α β γ : Type} {R : β → γ → Prop} (f : α → β) : ∀ {as : List α} {cs : List γ}, EachIs (fun a c => R (f a) c) as cs → EachIs R (as.map f) cs
  | _, _, .nil => .nil
  | _, _, .cons h t => .cons h (each_mapl f t)
theorem each_self {α : Type} {R : α → α → Prop} (h : ∀ a, R a a) : ∀ as : List α, EachIs R as as
  | [] => .nil
  | a :: as => .cons (h a) (each_self h as)
theorem each_mapr {α β γ : Type} {R : α → γ → Prop} (f : β → γ) : ∀ {as : List α} {bs : List β}, EachIs (fun a b => R a (f b)) as bs → EachIs R as (bs.map f)
  | _, _, .nil => .nil
  | _, _, .cons h t => .cons h (each_mapr f t)
theorem each_eq {α : Type} : ∀ {as bs : List α}, EachIs (fun a b => a = b) as bs → as = bs
  | _, _, .nil => rfl
  | _, _, .cons h t => by rw [h, each_eq t]
theorem map_fst_zip' {α β : Type} : ∀ {as : List α} {bs : List β}, as.length = bs.length → (as.zip bs).map Prod.fst = as
  | [], [], _ => rfl
  | [], _ :: _, h => by cases h
  | _ :: _, [], h => by cases h
  | a :: as, b :: bs, h => by
    rw [List.zip_cons_cons, List.map_cons, map_fst_zip' (by simpa using h)]
theorem map_snd_zip' {α β : Type} : ∀ {as : List α} {bs : List β}, as.length = bs.length → (as.zip bs).map Prod.snd = bs
  | [], [], _ => rfl
  | [], _ :: _, h => by cases h
  | _ :: _, [], h => by cases h
  | a :: as, b :: bs, h => by
    rw [List.zip_cons_cons, List.map_cons, map_snd_zip' (by simpa using h)]
section
variable {X : Cx}
theorem cr_sortP (hu : X.A.units + 64 < cLine) : CallR X (.builtin "sorted") (rSortP X.K) := by
  intro pins s σ H vs us Q I r h
  obtain ⟨a, xs, ps, rfl, hs, hd, hc, q⟩ := h
  obtain ⟨its, rv, hl, hz⟩ := I.list hs
  obtain ⟨u, rfl, ru⟩ := vals1 r
  obtain rfl : u = Value.ref a := ru
  obtain ⟨hal, hk, hdep⟩ := cmpAll_spec hc
  have lx : xs.length = ps.length := dpAll_len hd
  have e0 : EachIs (fun u p => ∃ as, Reads s.heap u p as) its ps := each_rel I hd rv
  -- the items: values of the abstract list, with their data
  have e1 : EachIs (fun u (b : V × PyData) => RelV b.1 u ∧ ∃ as, Reads s.heap u b.2 as) its (xs.zip ps) := each_zip (each_swap (each_vals rv)) e0
  have m2 : (xs.zip ps).map Prod.snd = ps := map_snd_zip' lx
  have m1 : (xs.zip ps).map Prod.fst = xs := map_fst_zip' lx
  refine PySem.W.sorted_data (R := fun u (b : V × PyData) => RelV b.1 u) (bs := xs.zip ps) (enc := Prod.snd) hl.isList (e1.mono fun _ _ h => h.1) (e1.mono fun _ _ h => h.2) (by rw [m2]; exact hal) (by rw [m2]; exact hk) ?_ (fun b hb => ?_) fun out ho he => ?_
  · rw [← e1.length, ← rv.length]; exact hz
  · have : b.2 ∈ ps := by rw [← m2]; exact List.mem_map_of_mem hb
    have := hdep _ this
    show X.A.units + 2 + b.2.depth < cLine
    omega
  · have ev : Vals (((xs.zip ps).mergeSort (dataLe false Prod.snd)).map Prod.fst) out := vals_each (each_mapl (R := RelV) Prod.fst (each_swap he))
    obtain ⟨n, hn⟩ := PyProof.Rows.sortedAll_at s.heap its out.toArray
    have kp : ∀ b o, s.heap.get? b = some o → (PyProof.Rows.sortedAll s.heap its out.toArray).get? b = some o := fun b o h => PyProof.Rows.sortedAll_old h
    refine ⟨.ref (s.heap.objs.size + 1), upd H (s.heap.objs.size + 1) (.lst _), I.laid (t' := s.toks) kp (Nat.le_succ _) ⟨?_, out, n, ev, hn⟩, rfl, q _ _ (fun β bs enc R hb hR => ?_) (I.hok.fresh (Nat.le_succ _))⟩
    · rw [ev.length, ho, ← e1.length, ← rv.length]; exact hz
    · have h2 : EachIs (fun (z : V × PyData) b => R z.1 b ∧ z.2 = enc b) (xs.zip ps) bs := by
        have a1 : EachIs (fun x (z : V × PyData) => x = z.1) xs (xs.zip ps) := by
          have := each_self (R := fun (a b : V × PyData) => a.1 = b.1) (fun _ => rfl) (xs.zip ps)
          have := each_mapl (R := fun x (z : V × PyData) => x = z.1) Prod.fst this
          rw [m1] at this; exact this
        have a2 : EachIs (fun b p => enc b = p) bs ps := by
          rw [← hb]
          exact each_mapr (R := fun b p => enc b = p) enc (each_self (R := fun a b => enc a = enc b) (fun _ => rfl) bs)
        have a3 := each_zip (each_swap hR) a2
        exact (each_swap a3).mono fun z b h => ⟨h.1, h.2.symm⟩
      have h3 := PySem.W.sort_each (R := fun (z : V × PyData) b => R z.1 b ∧ z.2 = enc b) (r := dataLe false Prod.snd) (s := dataLe false enc) h2 fun p hp q hq => by
        have e2 := (h2.zip p hp).2
        have e3 := (h2.zip q hq).2
        show (!dataLt q.1.2 p.1.2) = (!dataLt (enc q.2) (enc p.2))
        rw [e2, e3]
      exact each_mapl (R := R) Prod.fst (h3.mono fun _ _ h => h.1)
end
end DL
namespace DL
open PySem PySem.Spec L2
open PySem.W (EachIs dataLe AllAlike Sortable dataLt alike)
def strsOf : List D → Option (List Str)
  | [] => some []
  | .str b :: r => (strsOf r).map (b :: ·)
  | _ => none
theorem strsOf_spec : ∀ {ds : List D} {xs : List Str}, strsOf ds = some xs → ds = xs.map D.str
  | [], xs, h => by cases h; rfl
  | d :: ds, xs, h => by
    cases d with
    | str b =>
      obtain ⟨r, hr, e⟩ := Option.map_eq_some_iff.mp (show (strsOf ds).map (b :: ·) = some xs from h)
      rw [← e, List.map_cons, ← strsOf_spec hr]
    | _ => cases h
theorem strsOf_map : ∀ xs : List Str, strsOf (xs.map D.str) = some xs
  | [] => rfl
  | x :: xs => by
    show (strsOf (xs.map D.str)).map (x :: ·) = _
    rw [strsOf_map xs]; rfl
theorem intsOf_spec' : ∀ {ds : List D} {xs : List Int}, intsOf ds = some xs → ds = xs.map D.int
  | [], xs, h => by cases h; rfl
  | d :: ds, xs, h => by
    cases d with
    | int b =>
      obtain ⟨r, hr, e⟩ := Option.map_eq_some_iff.mp (show (intsOf ds).map (b :: ·) = some xs from h)
      rw [← e, List.map_cons, ← intsOf_spec' hr]
    | _ => cases h
/-- texts in order -/
def strLe (a b : Str) : Bool := decide (a.cps.toList ≤ b.cps.toList)
def strSort (l : List Str) : List Str := l.mergeSort strLe
theorem strLe_trans {a b c : Str} (h1 : strLe a b = true) (h2 : strLe b c = true) : strLe a c = true := by
  unfold strLe at *
  simp only [decide_eq_true_eq] at *
  exact Std.le_trans h1 h2
theorem strLe_total (a b : Str) : (strLe a b || strLe b a) = true := by
  unfold strLe
  simp only [Bool.or_eq_true, decide_eq_true_eq]
  exact Std.le_total
theorem strLe_anti {a b : Str} (h1 : strLe a b = true) (h2 : strLe b a = true) : a = b := by
  unfold strLe at *
  simp only [decide_eq_true_eq] at *
  exact PySem.W.str_of_cps (Std.le_antisymm h1 h2)
theorem risingS_pw : ∀ {r : List Str} {p : Str}, PyProof.Rows.risingS p r = true → (p :: r).Pairwise fun a b => strLe a b = true
  | [], p, _ => List.pairwise_singleton _ _
  | x :: r, p, h => by
    unfold PyProof.Rows.risingS at h
    rw [Bool.and_eq_true] at h
    obtain ⟨h1, h2⟩ := h
    have ih := risingS_pw h2
    have h3 : strLe p x = true := by
      rw [PyProof.Rows.ltCps_eq] at h1
      unfold strLe
      simp only [Bool.not_eq_true', decide_eq_false_iff_not, decide_eq_true_eq] at *
      exact Std.not_lt.mp h1
    refine List.pairwise_cons.mpr ⟨fun y hy => ?_, ih⟩
    rcases List.mem_cons.mp hy with rfl | hy
    · exact h3
    · exact strLe_trans h3 ((List.pairwise_cons.mp ih).1 y hy)
theorem sortedS_pw {r : List Str} (h : PyProof.Rows.sortedS r = true) : r.Pairwise fun a b => strLe a b = true := by
  cases r with
  | nil => exact List.Pairwise.nil
  | cons x r => exact risingS_pw h
theorem strSort_pw (l : List Str) : (strSort l).Pairwise fun a b => strLe a b = true := List.pairwise_mergeSort (le := strLe) (fun a b c h k => strLe_trans h k) strLe_total l
theorem strSort_perm (l : List Str) : (strSort l).Perm l := List.mergeSort_perm _ _
theorem strSort_uniq {l l' : List Str} (p : l'.Perm l) (s : l'.Pairwise fun a b => strLe a b = true) : l' = strSort l :=
  List.Perm.eq_of_pairwise (fun a b _ _ h k => strLe_anti h k) s (strSort_pw l) (p.trans (strSort_perm l).symm)
def sortL (xs : List D) : Res D := match toPs xs with
  | some ps => if cmpAll ps = true then .ok (.lst (xs.mergeSort (dataLe false encP))) else .bad
  | none => .bad
def sortedD (d : D) : Res D := match d with
  | .lst xs => sortL xs
  | .dic false kvs => if kvs.length < 64 then (match strsOf (kvs.map (·.1)) with
    | some ks => .ok (.lst ((strSort ks).map D.str))
    | none => match intsOf (kvs.map (·.1)) with
      | some ks => .ok (.lst ((intSort ks).map D.int))
      | none => .bad) else .bad
  | _ => .bad
theorem sortL_nx (xs : List D) : Noex (sortL xs) := fun e h => by
  unfold sortL at h
  split at h
  · split at h <;> cases h
  · cases h
theorem sortedD_nx (d : D) : Noex (sortedD d) := fun e h => by
  unfold sortedD at h
  split at h
  · exact sortL_nx _ e h
  · split at h
    · split at h
      · cases h
      · split at h <;> cases h
    · cases h
  · cases h
abbrev rSortDS : List V → Hp → VK → Prop := fun xs H Q => ∃ (a : Addr) (kvs : List (Key × V)) (ks : List Str), xs = [.ref a] ∧ Rd H a (.dK kvs) ∧ kvs.map (·.1) = ks.map Sum.inr ∧ ks.length < 64 ∧
    ∀ ys p, ys.Perm ks → PyProof.Rows.sortedS ys = true → H p = none → Q (.ref p) (upd H p (.lst (ys.map V.str)))
abbrev rSortX (K : Frag) : List V → Hp → VK → Prop := fun xs H Q => rSortP K xs H Q ∨ (rSortDI xs H Q ∨ rSortDS xs H Q)
theorem call_sortX {X : Cx} (hc : X.calm = true) (hu : X.A.units + 64 < cLine) : CallR X (.builtin "sorted") (rSortX X.K) := CallR.or (cr_sortP hu) (CallR.or (call_sortedDI hc) (call_sortedD hc))
theorem keys_strs {K : Frag} {F : Hp} : ∀ {kvs : List (D × D)} {l : List (Key × V)} {ns : List Str}, RepK K F kvs l → strsOf (kvs.map (·.1)) = some ns → l.map (·.1) = ns.map Sum.inr
  | [], l, ns, h, e => by
    cases (show l = [] from h)
    cases e
    rfl
  | (k, d) :: r, l, ns, h, e => by
    obtain ⟨k', v, r', e1, e2, _, h4⟩ := h
    subst e1
    subst e2
    cases k' with
    | inr i =>
      have e' : (strsOf (r.map (·.1))).map (i :: ·) = some ns := e
      obtain ⟨l, hl, el⟩ := Option.map_eq_some_iff.mp e'
      subst el
      rw [List.map_cons, List.map_cons, keys_strs h4 hl]
    | inl x => cases e
theorem toPs_enc : ∀ {ds : List D} {ps : List PyData}, toPs ds = some ps → ds.map encP = ps
  | [], ps, h => by cases h; rfl
  | d :: ds, ps, h => by
    have e' : (match toP d, toPs ds with
      | some p, some ps => some (p :: ps)
      | _, _ => none) = some ps := h
    cases q1 : toP d with
    | none => rw [q1] at e'; cases e'
    | some p =>
      cases q2 : toPs ds with
      | none => rw [q1, q2] at e'; cases e'
      | some ps' =>
        rw [q1, q2] at e'
        cases e'
        rw [List.map_cons, toPs_enc q2]
        unfold encP
        rw [q1]; rfl
theorem reps_each {K : Frag} {F : Hp} : ∀ {ds : List D} {vs : List V}, Reps K F ds vs → EachIs (fun v d => Rep K F d v) vs ds
  | [], vs, h => by cases (show vs = [] from h); exact .nil
  | d :: ds, vs, h => by
    obtain ⟨v, r, e, h1, h2⟩ := h
    subst e
    exact .cons h1 (reps_each h2)
theorem each_reps {K : Frag} {F : Hp} : ∀ {ds : List D} {vs : List V}, EachIs (fun v d => Rep K F d v) vs ds → Reps K F ds vs
  | _, _, .nil => rfl
  | _, _, .cons h t => ⟨_, _, rfl, h, each_reps t⟩
theorem reps_strs {K : Frag} {F : Hp} : ∀ {xs : List Str}, Reps K F (xs.map D.str) (xs.map V.str)
  | [] => rfl
  | n :: ns => ⟨.str n, ns.map V.str, rfl, rfl, reps_strs⟩
section
variable {os : List Bool}
theorem sortedD_ok {K : Frag} : Op1 K os (fun v => rSortX K [v]) sortedD (rO K os) := by
  intro g ρ σ H F x dx d Q hR vx e q
  have fin : ∀ (ds : List D) (vs : List V) (p : Addr), Reps K F ds vs → H p = none → d = .lst ds → Q (.ref p) (upd H p (.lst vs)) := fun ds vs p h2 h3 h4 => by
    subst h4
    exact q (.ref p) _ F (hR.laid h3) FLe.refl ⟨p, rfl, Free.new hR h3 ⟨_, upd_same, h2⟩⟩
  unfold sortedD at e
  split at e
  · rename_i xs
    unfold sortL at e
    split at e
    · rename_i ps hps
      split at e
      · rename_i hc
        cases e
        obtain ⟨a, vs, ea, ha, hr⟩ := vx
        refine .inl ⟨a, vs, ps, by rw [ea], ha, dps_of hR.sub xs vs ps hps hr, hc, fun p ys hy hp => fin _ _ p (each_reps (hy D xs encP (fun v d => Rep K F d v) (toPs_enc hps) (reps_each hr))) hp rfl⟩
      · cases e
    · cases e
  · rename_i kvs
    split at e
    · rename_i hl
      split at e
      · rename_i ks hks
        cases e
        obtain ⟨a, ea, h⟩ := vx
        rcases h with ⟨_, l, ha, hk⟩ | ⟨z, _⟩
        · refine .inr (.inr ⟨a, l, ks, by rw [ea], ha, keys_strs hk hks, ?_, fun ys p h1 h2 h3 => ?_⟩)
          · have := congrArg List.length (strsOf_spec hks)
            simp at this
            omega
          · rw [strSort_uniq h1 (sortedS_pw h2)]
            exact fin _ _ p reps_strs h3 rfl
        · cases z
      · split at e
        · rename_i ks hks
          cases e
          obtain ⟨a, ea, h⟩ := vx
          rcases h with ⟨_, l, ha, hk⟩ | ⟨z, _⟩
          · refine .inr (.inl ⟨a, l, ks, by rw [ea], ha, keys_ints hk hks, ?_, fun ys p h1 h2 h3 => ?_⟩)
            · have := congrArg List.length (intsOf_spec' hks)
              simp at this
              omega
            · rw [intSort_uniq h1 h2]
              exact fin _ _ p Reps.ints h3 rfl
          · cases z
        · cases e
    · cases e
  · cases e
end
end DL
/-! DL20: boxes = [{}]; for n, t in space: boxes[0][n] = (0, t). -/
namespace DL
open PySem PySem.Spec L2
set_option autoImplicit false
/-- the dict that the loop makes -/
def boxM (t : Tgt) (ns ts : Nat) : List D → Ev → List (D × D) → Res (List (D × D) × Ev)
  | [], ρ, acc => .ok (acc, ρ)
  | d :: ds, ρ, acc => match t d ρ with
    | .ok ρ1 => (match ρ1[ns]?, ρ1[ts]? with
      | some (some k), some (some z) => (match asKey k with
        | some _ => if acc.length < sizeLine then boxM t ns ts ds ρ1 (putD acc k (.tup [.int 0, z])) else .bad
        | none => .bad)
      | _, _ => .bad)
    | _ => .bad
/-- b: the slot of boxes, sp: of what is walked -/
def sBox (b sp : Nat) (t : Tgt) (ns ts : Nat) : SM := fun ρ => match ρ[b]?, ρ[sp]? with
  | some none, some (some (.lst ds)) => (match boxM t ns ts ds ρ [] with
    | .ok (kvs, ρ') => (match ρ'[b]? with
      | some none => .ok (.nx, ρ'.set b (some (.lst [.dic false kvs])))
      | _ => .bad)
    | _ => .bad)
  | _, _ => .bad
structure Bx (K : Frag) (g : Gh) (os : List Bool) (ρ : Ev) (σ : L2.St) (H F : Hp) (b : Nat) (l d : Addr) (kvs : List (D × D)) : Prop where
  r : R K g os ρ σ H F
  un : ρ[b]? = some none
  at_ : σ[b]? = some (some (.ref l))
  hl : H l = some (.lst [.ref d])
  hd : ∃ m, H d = some (.dK m) ∧ RepK K F kvs m
  fl : F l = none
  fd : F d = none
  l0 : g.H0 l = none
  d0 : g.H0 d = none
  nl : ∀ (i : Nat) (e : D), os[i]? = some true → ρ[i]? = some (some e) → σ[i]? ≠ some (some (V.ref l))
  nd : ∀ (i : Nat) (e : D), os[i]? = some true → ρ[i]? = some (some e) → σ[i]? ≠ some (some (V.ref d))
section
variable {K : Frag} {g : Gh} {os : List Bool} {ρ ρ' : Ev} {σ σ' : L2.St} {H H' F F' : Hp} {b : Nat} {l d : Addr} {kvs : List (D × D)}
theorem Bx.ne (x : Bx K g os ρ σ H F b l d kvs) : l ≠ d := fun z => by
  subst z
  obtain ⟨m, h, _⟩ := x.hd
  rw [x.hl] at h; cases h
/-- another heap and frozen part, grown -/
theorem Bx.grow (x : Bx K g os ρ σ H F b l d kvs) (r : R K g os ρ σ H' F') (le : FLe F F') (kp : Kp H F H' F') : Bx K g os ρ σ H' F' b l d kvs where
  r := r
  un := x.un
  at_ := x.at_
  hl := kp.1 _ _ x.hl
  hd := let ⟨m, h, q⟩ := x.hd; ⟨m, kp.1 _ _ h, RepK.mono le _ _ q⟩
  fl := by
    cases e : F' l with
    | none => rfl
    | some u =>
      rcases kp.2 l u e with h | h | ⟨xs, _, h⟩
      · rw [x.fl] at h; cases h
      · rw [x.hl] at h; cases h
      · rw [x.hl] at h; cases h
  fd := by
    obtain ⟨m, hm, _⟩ := x.hd
    cases e : F' d with
    | none => rfl
    | some u =>
      rcases kp.2 d u e with h | h | ⟨xs, _, h⟩
      · rw [x.fd] at h; cases h
      · rw [hm] at h; cases h
      · rw [hm] at h; cases h
  l0 := x.l0
  d0 := x.d0
  nl := x.nl
  nd := x.nd
/-- other slots -/
theorem Bx.slots (x : Bx K g os ρ σ H F b l d kvs) {vs : List Nat} (hb : b ∉ vs) (ho : ∀ v ∈ vs, os[v]? = some false) (hs : ∀ i, i ∉ vs → σ'[i]? = σ[i]?) (hr : ∀ i, i ∉ vs → ρ'[i]? = ρ[i]?) (r : R K g os ρ' σ' H F) : Bx K g os ρ' σ' H F b l d kvs where
  r := r
  un := by rw [hr b hb]; exact x.un
  at_ := by rw [hs b hb]; exact x.at_
  hl := x.hl
  hd := x.hd
  fl := x.fl
  fd := x.fd
  l0 := x.l0
  d0 := x.d0
  nl := fun i e h1 h2 => by
    have hi : i ∉ vs := fun z => by rw [ho i z] at h1; cases h1
    rw [hs i hi]
    exact x.nl i e h1 (by rw [← hr i hi]; exact h2)
  nd := fun i e h1 h2 => by
    have hi : i ∉ vs := fun z => by rw [ho i z] at h1; cases h1
    rw [hs i hi]
    exact x.nd i e h1 (by rw [← hr i hi]; exact h2)
/-- a heap changed at what nobody owns -/
theorem R.poke (r : R K g os ρ σ H F) {p : Addr} {o u : HO} (hp : H p = some o) (mo : Mut (some o)) (hf : F p = none) (h0 : g.H0 p = none) (hn : ∀ (i : Nat) (e : D), os[i]? = some true → ρ[i]? = some (some e) → σ[i]? ≠ some (some (V.ref p))) : R K g os ρ σ (upd H p u) F where
  len := r.len
  leno := r.leno
  sub := fun a v e => by
    have ne : a ≠ p := fun z => by subst z; rw [hf] at e; cases e
    exact (r.sub a v e).imp (fun z => by rw [upd_ne ne]; exact z) fun ⟨m, ob, z⟩ => ⟨m, ob, by rw [upd_ne ne]; exact z⟩
  fz := r.fz
  ow := fun i e h1 h2 => by
    obtain ⟨a, e1, e2, e3, e4⟩ := r.ow i e h1 h2
    have ne : a ≠ p := fun z => by subst z; exact hn i e h1 h2 e1
    exact ⟨a, e1, e2, e3.heap (upd_ne ne), e4⟩
  dj := r.dj
  frame := fun c v e hp' => by
    have ne : c ≠ p := fun z => by subst z; rw [h0] at e; cases e
    exact (r.frame c v e hp').imp (fun z => by rw [upd_ne ne]; exact z) id
  f0 := r.f0
  fresh := r.fresh
  fr := fun c od v hF hH => by
    have ne : c ≠ p := fun z => by subst z; rw [hf] at hF; cases hF
    rw [upd_ne ne] at hH
    exact r.fr c od v hF hH
  pin := r.pin
  lock := fun c od v hm => by
    have ne : c ≠ p := fun z => by
      subst z
      have := (r.lock c od v hm).2
      rw [hf] at this; cases this
    exact ⟨by rw [upd_ne ne]; exact (r.lock c od v hm).1, (r.lock c od v hm).2⟩
  kt := fun i c hm hs => by
    obtain ⟨xs, e⟩ := r.kt i c hm hs
    have ne : c ≠ p := fun z => by
      subst z
      rw [hp] at e; cases e
      exact mo.elim
    exact ⟨xs, by rw [upd_ne ne]; exact e⟩
/-- an unbound slot's value does not matter -/
theorem R.unbound (r : R K g os ρ σ H F) {i : Nat} {v : V} (h : ρ[i]? = some none) (hk : i ∉ g.kt) : R K g os ρ (σ.set i (some v)) H F where
  len := by rw [List.length_set]; exact r.len
  leno := r.leno
  sub := r.sub
  fz := fun j e h1 h2 => by
    have ne : i ≠ j := fun z => by subst z; rw [h] at h2; cases h2
    rw [get_set, if_neg ne]
    exact r.fz j e h1 h2
  ow := fun j e h1 h2 => by
    have ne : i ≠ j := fun z => by subst z; rw [h] at h2; cases h2
    rw [get_set, if_neg ne]
    exact r.ow j e h1 h2
  dj := fun j k d1 e1 a hne h1 h2 h3 h4 h5 h6 => by
    have n1 : i ≠ j := fun z => by subst z; rw [h] at h3; cases h3
    have n2 : i ≠ k := fun z => by subst z; rw [h] at h4; cases h4
    rw [get_set, if_neg n1] at h5
    rw [get_set, if_neg n2] at h6
    exact r.dj j k d1 e1 a hne h1 h2 h3 h4 h5 h6
  frame := r.frame
  f0 := r.f0
  fresh := r.fresh
  fr := r.fr
  pin := fun j a hm => by
    obtain ⟨h1, ⟨e, h2⟩, h3⟩ := r.pin j a hm
    have ne : i ≠ j := fun z => by subst z; rw [h] at h2; cases h2
    exact ⟨h1, ⟨e, h2⟩, by rw [get_set, if_neg ne]; exact h3⟩
  lock := r.lock
  kt := fun j c hm hs => by
    have ne : i ≠ j := fun z => by subst z; exact hk hm
    rw [get_set, if_neg ne] at hs
    exact r.kt j c hm hs
/-- the slot takes the list; the dict is frozen -/
theorem Bx.done (x : Bx K g os ρ σ H F b l d kvs) (hi : ∀ a, (b, a) ∉ g.pn) (hk : b ∉ g.kt) : ∃ F', R K g (os.set b true) (ρ.set b (some (.lst [.dic false kvs]))) σ H F' ∧ FLe F F' := by
  obtain ⟨m, hm, hr⟩ := x.hd
  have le : FLe F (upd F d (.dK m)) := FLe.upd x.fd
  have r1 : R K g os ρ σ H (upd F d (.dK m)) := x.r.frozen hm x.fd (.inl x.d0) (fun _ _ z => nomatch z) x.nd
  have own : OwnD K (upd F d (.dK m)) H l (.lst [.dic false kvs]) := ⟨[.ref d], x.hl, .ref d, [], rfl, ⟨d, rfl, .inl ⟨rfl, m, upd_same, RepK.mono le _ _ hr⟩⟩, rfl⟩
  have r2 := r1.own (i := b) (a := l) hi hk (by rw [upd_ne x.ne]; exact x.fl) own x.l0 fun j e _ h1 h2 => x.nl j e h1 h2
  have es : σ.set b (some (.ref l)) = σ := by
    refine List.ext_getElem? fun j => ?_
    rw [get_set]
    by_cases hj : b = j
    · subst hj
      rw [if_pos rfl, x.at_]
      have : b < σ.length := (List.getElem?_eq_some_iff.mp x.at_).1
      rw [if_pos this]
    · rw [if_neg hj]
  rw [es] at r2
  exact ⟨_, r2, le⟩
end
section
variable {X : Cx} {E : XK} {md : Md} {os os' : List Bool} {tg nb nn nt : Expr} {rest : List Stmt} {f : SM} {t : Tgt} {gt : TG} {b sp ns ts : Nat} {vs : List Nat} {p1 p2 p3 p4 p5 p6 p7 p8 p9 p10 : Pos} {xsp : Str} {k1 k2 ki kj : Nat} {st1 : Stmt}
theorem dss_box (hp : PassesOwn (model X.prog X.w) X.A X.env X.xe) (hc : X.calm = true) (hu : X.A.units + 1 < cLine)
    (hs1 : ∀ {te : TE}, PE X (.List [.Dict [] [] p1] p2) te → PS X st1 (tAsg te (gName b)))
    (hvb : PE X nb (tVar b)) (hvs : PE X (.Name xsp p3) (tVar sp)) (hvn : PE X nn (tVar ns)) (hvt : PE X nt (tVar ts))
    (hgt : PG X tg gt) (hraw : RawT X.K os vs gt t) (hbv : b ∉ vs) (hbs : os[b]? = some false) (hsp : os[sp]? = some false) (hns : os[ns]? = some false) (hts : os[ts]? = some false) (hvv : ∀ v ∈ vs, os[v]? = some false)
    (hpp : b ∉ md.pp) (hkt : md.kt = [])
    (hrest : PSs X rest (tS X.K E md (os.set b true) os' f))
    (hasg : ∀ {te : TE} {g : TG}, PE X (.Tuple [.Constant (.int 0) ki p4, nt] k1 p5) te → PG X (.Subscript (.Subscript nb (.Constant (.int 0) kj p6) p7) nn p8) g → PS X (.Assign [.Subscript (.Subscript nb (.Constant (.int 0) kj p6) p7) nn p8] (.Tuple [.Constant (.int 0) ki p4, nt] k1 p5) p9) (tAsg te g))
    (hfs : ∀ x, foldedSetIterable (.Name xsp p3) X.env x = pure x := by intro _; rfl)
    (hpa : PA X [.Constant (.int 0) ki p4, nt] (tCons (tC (.int 0)) (tCons (tVar ts) tNil)))
    (ha : ∀ v, assign (.Subscript (.Subscript nb (.Constant (.int 0) kj p6) p7) nn p8) X.env v = (do
      let ov ← holding [v] (eval (.Subscript nb (.Constant (.int 0) kj p6) p7) X.env)
      let iv ← holding [v, ov] (eval nn X.env)
      standAt p8
      holding [v, ov, iv] (setItem ov iv v)
      release [v, ov, iv] []) := by intro _; rfl) :
    PSs X (st1 :: .For tg (.Name xsp p3) [.Assign [.Subscript (.Subscript nb (.Constant (.int 0) kj p6) p7) nn p8] (.Tuple [.Constant (.int 0) ki p4, nt] k1 p5) p9] [] p10 :: rest) (tS X.K E md os os' (sSeq (sBox b sp t ns ts) f)) :=
  PSs.weak (pss_cons (hs1 (pe_lst (pa_cons pe_dnewK pa_nil))) (pss_cons (ps_for hp hc (pi_list hvs) hgt
    (pss_cons (hasg (pe_tup hpa) (pg_sub (pe_ix ix_list hvb pe_int (by intro _ _; rfl)) hvn (set_dict hu) ha)) pss_nil) hfs) hrest)) fun σ H Q ⟨g, ρ, F, r, hst, w⟩ => by
    have hpin := pin_not hst hpp
    have hg0 : g.kt = [] := hst.2.trans hkt
    have hk0 : b ∉ g.kt := by rw [hg0]; simp
    -- what the mirror says
    obtain ⟨kvs, ρe, ds, hb0, hds, hm, hbe, wf⟩ : ∃ kvs ρe ds, ρ[b]? = some none ∧ ρ[sp]? = some (some (.lst ds)) ∧ boxM t ns ts ds ρ [] = .ok (kvs, ρe) ∧ ρe[b]? = some none ∧ WS X.K E md os' g F Q (f (ρe.set b (some (.lst [.dic false kvs])))) := by
      unfold sSeq sBox at w
      cases e1 : ρ[b]? with
      | none => rw [e1] at w; exact w.elim
      | some o1 =>
        cases o1 with
        | some z => rw [e1] at w; exact w.elim
        | none =>
          rw [e1] at w
          cases e2 : ρ[sp]? with
          | none => rw [e2] at w; exact w.elim
          | some o2 =>
            cases o2 with
            | none => rw [e2] at w; exact w.elim
            | some z =>
              rw [e2] at w
              cases z with
              | lst ds =>
                dsimp only at w
                cases e3 : boxM t ns ts ds ρ [] with
                | ok q =>
                  obtain ⟨kvs, ρe⟩ := q
                  rw [e3] at w
                  dsimp only at w
                  cases e4 : ρe[b]? with
                  | none => rw [e4] at w; exact w.elim
                  | some o4 =>
                    cases o4 with
                    | some z => rw [e4] at w; exact w.elim
                    | none =>
                      rw [e4] at w
                      exact ⟨kvs, ρe, ds, rfl, rfl, e3, e4, w⟩
                | exc x => rw [e3] at w; exact w.elim
                | bad => rw [e3] at w; exact w.elim
              | _ => exact w.elim
    -- boxes = [{}]
    intro d hd
    refine ⟨by show 1 ≤ sizeLine; rw [sizeLine_eq]; omega, fun l hl => ?_⟩
    have hld : l ≠ d := fun z => by subst z; rw [upd_same] at hl; cases hl
    have hl0 : H l = none := by rw [← hl, upd_ne hld]
    have r1 := r.laid (o := .dK []) hd
    have r2 := r1.laid (o := .lst [.ref d]) hl
    have r3 := r2.unbound (v := .ref l) hb0 hk0
    have lb : b < σ.length := by rw [r.len]; exact (List.getElem?_eq_some_iff.mp hb0).1
    have own0 : ∀ (a : Addr), H a = none → ∀ (i : Nat) (e : D), os[i]? = some true → ρ[i]? = some (some e) → (σ.set b (some (V.ref l)))[i]? ≠ some (some (V.ref a)) := fun a ha i e h1 h2 h3 => by
      have ne : b ≠ i := fun z => by subst z; rw [hb0] at h2; cases h2
      rw [get_set, if_neg ne] at h3
      obtain ⟨a', q1, q2, q3, _⟩ := r.ow i e h1 h2
      rw [h3] at q1; cases q1
      obtain ⟨o, q4, _⟩ := q3.there
      rw [ha] at q4; cases q4
    have bx : Bx X.K g os ρ (σ.set b (some (.ref l))) (upd (upd H d (.dK [])) l (.lst [.ref d])) F b l d [] :=
      ⟨r3, hb0, by rw [get_set, if_pos rfl, if_pos lb], upd_same, ⟨[], by rw [upd_ne hld.symm, upd_same], rfl⟩, r.none_of hl0, r.none_of hd, r.h0_none hl0, r.h0_none hd, own0 l hl0, own0 d hd⟩
    -- the loop
    obtain ⟨va, e1, e2⟩ := r.fz sp _ hsp hds
    obtain ⟨a, vs0, ea, ha, hr0⟩ := e2
    subst ea
    have nbs : b ≠ sp := fun z => by subst z; rw [hb0] at hds; cases hds
    have hJ : ItD X.K g F ds (Itl X.K a) := .list ha hr0
    refine ⟨.ref a, by rw [get_set, if_neg nbs]; exact e1, a, rfl, ⟨vs0, ha.sq r3.sub⟩, fun i m σ H => m = ds.length - i ∧ i ≤ ds.length ∧ ∃ ρ F' acc, Bx X.K g os ρ σ H F' b l d acc ∧ FLe F F' ∧ boxM t ns ts (ds.drop i) ρ acc = .ok (kvs, ρe), ⟨ds.length, by simp, Nat.zero_le _, ρ, F, [], bx, FLe.refl, by simpa using hm⟩, ?_⟩
    rintro i m σ H ⟨rfl, hi, ρ, F', acc, bx, le, hm⟩
    obtain ⟨h1, h2⟩ := hJ os ρ σ H F' i bx.r le
    by_cases hlt : i < ds.length
    · right
      obtain ⟨go, hy⟩ := h1 ds[i] (List.getElem?_eq_getElem hlt)
      rw [List.drop_eq_getElem_cons hlt] at hm
      unfold boxM at hm
      cases q1 : t ds[i] ρ with
      | exc x => rw [q1] at hm; cases hm
      | bad => rw [q1] at hm; cases hm
      | ok ρ1 =>
        rw [q1] at hm
        dsimp only at hm
        split at hm
        · rename_i k z hk hz
          split at hm
          · rename_i k' hk'
            split at hm
            · rename_i hlen
              refine ⟨go, fun σ' H' => ∃ ρ' F2, Bx X.K g os ρ' σ' H' F2 b l d (putD acc k (.tup [.int 0, z])) ∧ FLe F F2 ∧ boxM t ns ts (ds.drop (i + 1)) ρ' (putD acc k (.tup [.int 0, z])) = .ok (kvs, ρe), fun σ' H' ⟨ρ', F2, hb2, le2, hm2⟩ => ⟨ds.length - (i + 1), by omega, rfl, hlt, ρ', F2, _, hb2, le2, hm2⟩, fun x H' y => ?_⟩
              obtain ⟨F2, hR2, le2, hx, kp⟩ := hy x H' y
              have bx2 := bx.grow hR2 le2 kp
              refine hraw.go g ρ ρ1 F2 H' _ x σ _ hg0 hR2 hx q1 fun σ1 hs1 hl1 hr1 hR3 => ?_
              have bx3 := bx2.slots hbv hvv hs1 hr1 hR3
              obtain ⟨vt, t1, t2⟩ := hR3.fz ts z hts hz
              obtain ⟨vn, n1, n2⟩ := hR3.fz ns k hns hk
              refine ⟨vt, t1, by show 2 ≤ sizeLine; rw [sizeLine_eq]; omega, fun p hp => ?_⟩
              have le3 : FLe F2 (upd F2 p (.tup [.int 0, vt])) := FLe.upd (hR3.none_of hp)
              have r4 := hR3.new (o := .tup [.int 0, vt]) hp (fun _ _ z => nomatch z)
              have bx4 := bx3.grow r4 le3 ⟨fun c o h => upd_some hp h, fun c u h => by
                by_cases hc : c = p
                · subst hc; exact .inr (.inl hp)
                · rw [upd_ne hc] at h; exact .inl h⟩
              refine ⟨.ref l, bx4.at_, l, [.ref d], 0, .ref d, rfl, rfl, .inl (.inl bx4.hl), rfl, vn, n1, ?_⟩
              obtain ⟨m, hm1, hm2⟩ := bx4.hd
              have ek := asKey_eq hk'
              have ey : vn = kV k' := by
                have := key_view (F := F2) (H := H') hk' (n2.view hR3.sub)
                exact this
              subst ey
              refine ⟨d, _, rfl, DPut.k hm1 (by rw [hm2.length]; exact hlen), ρ1, _, ?_, le.trans (le2.trans le3), hm⟩
              have r5 := bx4.r.poke (u := .dK (putK m k' (.ref p))) hm1 trivial bx4.fd bx4.d0 bx4.nd
              refine ⟨r5, bx4.un, bx4.at_, by rw [upd_ne bx4.ne]; exact bx4.hl, ⟨_, upd_same, ?_⟩, bx4.fl, bx4.fd, bx4.l0, bx4.d0, bx4.nl, bx4.nd⟩
              rw [ek]
              exact RepK.put hm2 ⟨p, _, rfl, .inl upd_same, .int 0, [vt], rfl, rfl, vt, [], rfl, Rep.mono le3 _ _ t2, rfl⟩
            · cases hm
          · cases hm
        · cases hm
    · left
      have e : i = ds.length := by omega
      subst e
      refine ⟨h2 rfl, ?_⟩
      rw [List.drop_length] at hm
      cases hm
      obtain ⟨F3, r3, le3⟩ := bx.done hpin hk0
      exact ⟨g, _, F3, r3, hst, WS.mono (le.trans le3) wf⟩
end
end DL
/-! DL21: more mirrors evaluated: comprehensions, walks, dicts by names, texts. -/
namespace DL
open PySem PySem.Spec L2
set_option autoImplicit false
section
variable (ρ : Ev)
@[simp] theorem ap_comp (vs : List Nat) (f : EM (List D)) (t : Tgt) (c : EM Bool) (e : EM D) : eComp vs f t c e ρ = (match f ρ with
  | .ok (ds, ρ1) => (match compM vs t c e ds (wipeE ρ1 vs) [] with
    | .ok (acc, ρ2) => .ok (.lst acc, restE ρ1 vs ρ2)
    | _ => .bad)
  | _ => .bad) := rfl
@[simp] theorem ap_dcomp (vs : List Nat) (f : EM (List D)) (t : Tgt) (c : EM Bool) (ek e : EM D) : eDComp vs f t c ek e ρ = (match f ρ with
  | .ok (ds, ρ1) => (match dcompM vs t c ek e ds (wipeE ρ1 vs) [] with
    | .ok (acc, ρ2) => .ok (.dic false acc, restE ρ1 vs ρ2)
    | _ => .bad)
  | _ => .bad) := rfl
@[simp] theorem ap_compA (vs : List Nat) (i : Nat) (t : Tgt) (c : EM Bool) (e : EM D) : eCompA vs i t c e ρ = (match ρ[i]? with
  | some (some (.dic _ _)) => eComp vs (e1 gKeys (eVar i)) t c e ρ
  | _ => eComp vs (e1 gItems (eVar i)) t c e ρ) := rfl
@[simp] theorem ap_forA (i : Nat) (t : Tgt) (b : SM) : forA i t b ρ = (match ρ[i]? with
  | some (some (.dic _ _)) => noX (sFor (e1 gKeys (eVar i)) t b) ρ
  | _ => sFor (e1 gItems (eVar i)) t b ρ) := rfl
@[simp] theorem ap_noX (f : SM) : noX f ρ = (match f ρ with
  | .exc _ => .bad
  | r => r) := rfl
@[simp] theorem ap_ext (i : Nat) (f : EM D) : eExt i f ρ = (match ρ[i]? with
  | some (some d) => if isLst d = true then (match f ρ with
    | .ok (q, ρ2) => (match ρ2[i]? with
      | some (some x) => (match extD x q with
        | .ok (x', r) => .ok (r, ρ2.set i (some x'))
        | .exc e => .exc e
        | .bad => .bad)
      | _ => .bad)
    | .exc x => .exc x
    | .bad => .bad) else .bad
  | _ => .bad) := by
  unfold eExt eBind eVar
  cases q : ρ[i]? with
  | none => simp [q]
  | some o => cases o with
    | none => simp [q]
    | some d =>
      simp only [q]
      by_cases h : isLst d = true
      · rw [if_pos h, if_pos h]
        cases f ρ with
        | exc x => rfl
        | bad => rfl
        | ok p => rfl
      · rw [if_neg h, if_neg h]
@[simp] theorem ap_mth (i : Nat) (m : List D → D → Res (List D × D)) (f : EM D) : eMth i m f ρ = (match ρ[i]? with
  | some (some d) => if isLst d = true then (match f ρ with
    | .ok (q, ρ2) => (match ρ2[i]? with
      | some (some (.lst xs)) => (match m xs q with
        | .ok (ys, r) => .ok (r, ρ2.set i (some (.lst ys)))
        | _ => .bad)
      | _ => .bad)
    | .exc x => .exc x
    | .bad => .bad) else .bad
  | _ => .bad) := by
  unfold eMth eBind eVar
  cases q : ρ[i]? with
  | none => simp [q]
  | some o => cases o with
    | none => simp [q]
    | some d =>
      simp only [q]
      by_cases h : isLst d = true
      · rw [if_pos h, if_pos h]
        cases f ρ with
        | exc x => rfl
        | bad => rfl
        | ok p =>
          obtain ⟨a, ρ2⟩ := p
          dsimp only
          unfold eUpd
          cases ρ2[i]? with
          | none => rfl
          | some o => cases o with
            | none => rfl
            | some z => cases z with
              | lst xs =>
                dsimp only
                cases m xs a with
                | ok p => rfl
                | exc x => rfl
                | bad => rfl
              | _ => rfl
      · rw [if_neg h, if_neg h]
@[simp] theorem ap_mth0 (i : Nat) (m : List D → Res (List D × D)) : eMth0 i m ρ = (match ρ[i]? with
  | some (some (.lst xs)) => (match m xs with
    | .ok (ys, r) => .ok (r, ρ.set i (some (.lst ys)))
    | _ => .bad)
  | _ => .bad) := by
  unfold eMth0 eUpd
  cases ρ[i]? with
  | none => rfl
  | some o => cases o with
    | none => rfl
    | some z => cases z with
      | lst xs =>
        dsimp only
        cases m xs with
        | ok p => rfl
        | exc x => rfl
        | bad => rfl
      | _ => rfl
@[simp] theorem ap_get1 (fa fb : EM D) : eGet1 fa fb ρ = (match fa ρ with
  | .ok (x, ρ1) => if isDic x = true then (match fb ρ1 with
    | .ok (q, ρ2) => eLift (getD1 x q) ρ2
    | .exc x => .exc x
    | .bad => .bad) else .bad
  | .exc x => .exc x
  | .bad => .bad) := by
  unfold eGet1 eBind
  cases fa ρ with
  | exc x => rfl
  | bad => rfl
  | ok p =>
    obtain ⟨x, ρ1⟩ := p
    dsimp only
    by_cases h : isDic x = true
    · rw [if_pos h, if_pos h]
      cases fb ρ1 with
      | exc x => rfl
      | bad => rfl
      | ok p => rfl
    · rw [if_neg h, if_neg h]
@[simp] theorem ap_get2 (fa fb fc : EM D) : eGet2 fa fb fc ρ = (match fa ρ with
  | .ok (x, ρ1) => if isDic x = true then (match fb ρ1 with
    | .ok (q, ρ2) => (match fc ρ2 with
      | .ok (z, ρ3) => eLift (getD2 x q z) ρ3
      | .exc x => .exc x
      | .bad => .bad)
    | .exc x => .exc x
    | .bad => .bad) else .bad
  | .exc x => .exc x
  | .bad => .bad) := by
  unfold eGet2 eBind
  cases fa ρ with
  | exc x => rfl
  | bad => rfl
  | ok p =>
    obtain ⟨x, ρ1⟩ := p
    dsimp only
    by_cases h : isDic x = true
    · rw [if_pos h, if_pos h]
      cases fb ρ1 with
      | exc x => rfl
      | bad => rfl
      | ok p =>
        obtain ⟨y, ρ2⟩ := p
        dsimp only
        cases fc ρ2 with
        | exc x => rfl
        | bad => rfl
        | ok p => rfl
    · rw [if_neg h, if_neg h]
@[simp] theorem ap_index (fa fb : EM D) : eIndex fa fb ρ = (match fa ρ with
  | .ok (x, ρ1) => if isLst x = true then (match fb ρ1 with
    | .ok (q, ρ2) => eLift (indexD x q) ρ2
    | .exc x => .exc x
    | .bad => .bad) else .bad
  | .exc x => .exc x
  | .bad => .bad) := by
  unfold eIndex eBind
  cases fa ρ with
  | exc x => rfl
  | bad => rfl
  | ok p =>
    obtain ⟨x, ρ1⟩ := p
    dsimp only
    by_cases h : isLst x = true
    · rw [if_pos h, if_pos h]
      cases fb ρ1 with
      | exc x => rfl
      | bad => rfl
      | ok p => rfl
    · rw [if_neg h, if_neg h]
@[simp] theorem ap_sl (g : D → Option Int → Option Int → Res D) (fe : EM D) (fl fh : EM (Option Int)) : eSl g fe fl fh ρ = (match fe ρ with
  | .ok (x, ρ1) => (match fl ρ1 with
    | .ok (l, ρ2) => (match fh ρ2 with
      | .ok (u, ρ3) => eLift (g x l u) ρ3
      | .exc x => .exc x
      | .bad => .bad)
    | .exc x => .exc x
    | .bad => .bad)
  | .exc x => .exc x
  | .bad => .bad) := by
  unfold eSl eBind
  cases fe ρ with
  | exc x => rfl
  | bad => rfl
  | ok p =>
    obtain ⟨x, ρ1⟩ := p
    dsimp only
    cases fl ρ1 with
    | exc x => rfl
    | bad => rfl
    | ok p =>
      obtain ⟨y, ρ2⟩ := p
      dsimp only
      cases fh ρ2 with
      | exc x => rfl
      | bad => rfl
      | ok p => rfl
@[simp] theorem ap_slN (g : D → Option Int → Option Int → Res D) (i : Nat) (fl fh : EM (Option Int)) : eSlN g i fl fh ρ = (match ρ[i]? with
  | some (some _) => (match fl ρ with
    | .ok (l, ρ2) => (match fh ρ2 with
      | .ok (u, ρ3) => (match ρ3[i]? with
        | some (some x) => eLift (g x l u) ρ3
        | _ => .bad)
      | .exc x => .exc x
      | .bad => .bad)
    | .exc x => .exc x
    | .bad => .bad)
  | _ => .bad) := by
  unfold eSlN eBind eVar
  cases q : ρ[i]? with
  | none => simp [q]
  | some o => cases o with
    | none => simp [q]
    | some d =>
      simp only [q]
      cases fl ρ with
      | exc x => rfl
      | bad => rfl
      | ok p =>
        obtain ⟨y, ρ2⟩ := p
        dsimp only
        cases fh ρ2 with
        | exc x => rfl
        | bad => rfl
        | ok p =>
          obtain ⟨z, ρ3⟩ := p
          dsimp only
          cases ρ3[i]? with
          | none => rfl
          | some o => cases o <;> rfl
@[simp] theorem gItems_lst (ds : List D) : gItems (.lst ds) = .ok ds := rfl
@[simp] theorem gItems_tup (ds : List D) : gItems (.tup ds) = .ok ds := rfl
@[simp] theorem gKeys_dic (t : Bool) (kvs : List (D × D)) : gKeys (.dic t kvs) = .ok (kvs.map (·.1)) := rfl
@[simp] theorem gI_int (i : Int) : gI (.int i) = .ok (some i) := rfl
@[simp] theorem isLst_lst (xs : List D) : isLst (.lst xs) = true := rfl
@[simp] theorem isDic_dic (t : Bool) (xs : List (D × D)) : isDic (.dic t xs) = true := rfl
@[simp] theorem truD_bl (b : Bool) : truD (.bl b) = .ok b := rfl
@[simp] theorem truD_int (b : Int) : truD (.int b) = .ok (b != 0) := rfl
@[simp] theorem truD_lst (xs : List D) : truD (.lst xs) = .ok (!xs.isEmpty) := rfl
@[simp] theorem truD_non : truD .non = .ok false := rfl
@[simp] theorem intD_bl (b : Bool) : intD (.bl b) = .ok (.int (if b then 1 else 0)) := rfl
@[simp] theorem dictD_dic (xs : List (D × D)) : dictD (.dic false xs) = .ok (.dic false xs) := rfl
@[simp] theorem isNotC_tup (i : List D) : isNotC (.tup i) .non = .ok true := rfl
@[simp] theorem isNotC_non : isNotC .non .non = .ok false := rfl
@[simp] theorem isNotC_dic (t : Bool) (i : List (D × D)) : isNotC (.dic t i) .non = .ok true := rfl
@[simp] theorem isC_dic (t : Bool) (i : List (D × D)) : isC (.dic t i) .non = .ok false := rfl
@[simp] theorem isC_lst (i : List D) : isC (.lst i) .non = .ok false := rfl
@[simp] theorem isC_str (i : Str) : isC (.str i) .non = .ok false := rfl
@[simp] theorem isC_bl (b : Bool) : isC (.bl b) .non = .ok false := rfl
@[simp] theorem isC_blbl (b c : Bool) : isC (.bl b) (.bl c) = .ok (b == c) := rfl
@[simp] theorem isC_int_bl (i : Int) (b : Bool) : isC (.int i) (.bl b) = .ok false := rfl
@[simp] theorem isC_str_bl (i : Str) (b : Bool) : isC (.str i) (.bl b) = .ok false := rfl
@[simp] theorem isC_tup_bl (i : List D) (b : Bool) : isC (.tup i) (.bl b) = .ok false := rfl
@[simp] theorem isC_lst_bl (i : List D) (b : Bool) : isC (.lst i) (.bl b) = .ok false := rfl
@[simp] theorem isC_dic_bl (t : Bool) (i : List (D × D)) (b : Bool) : isC (.dic t i) (.bl b) = .ok false := rfl
@[simp] theorem isC_non_bl (b : Bool) : isC .non (.bl b) = .ok false := rfl
end
theorem appendD_lt {xs : List D} {q : D} (h : xs.length < 10000) : appendD xs q = .ok (xs ++ [q], .non) := by
  unfold appendD
  rw [if_pos (by rw [sizeLine_eq]; omega)]
theorem extD_lt {xs ys : List D} (h : xs.length + ys.length < 10000) : extD (.lst xs) (.lst ys) = .ok (.lst (xs ++ ys), .non) := by
  show (if xs.length + ys.length ≤ sizeLine then Res.ok (D.lst (xs ++ ys), D.non) else .bad) = _
  rw [if_pos (by rw [sizeLine_eq]; omega)]
theorem addL_ok {xs ys : List D} (h : xs.length + ys.length < 10000) : addD (.lst xs) (.lst ys) = .ok (.lst (xs ++ ys)) := by
  show (if xs.length + ys.length ≤ sizeLine then Res.ok (D.lst (xs ++ ys)) else .bad) = _
  rw [if_pos (by rw [sizeLine_eq]; omega)]
theorem addS_ok {xs ys : Str} (h : xs.length + ys.length < 10000) : addD (.str xs) (.str ys) = .ok (.str (xs ++ ys)) := by
  show (if xs.length + ys.length ≤ sizeLine then Res.ok (D.str (xs ++ ys)) else .bad) = _
  rw [if_pos (by rw [sizeLine_eq]; omega)]
theorem forM_nil (t : Tgt) (b : SM) (ρ : Ev) : forM t b [] ρ = .ok (.nx, ρ) := rfl
theorem forM_nx {t : Tgt} {b : SM} {d : D} {ds : List D} {ρ ρ1 ρ2 : Ev} (h1 : t d ρ = .ok ρ1) (h2 : b ρ1 = .ok (.nx, ρ2)) : forM t b (d :: ds) ρ = forM t b ds ρ2 := by
  conv => lhs; unfold forM
  rw [h1]
  dsimp only
  rw [h2]
theorem forM_rt {t : Tgt} {b : SM} {d r : D} {ds : List D} {ρ ρ1 ρ2 : Ev} (h1 : t d ρ = .ok ρ1) (h2 : b ρ1 = .ok (.rt r, ρ2)) : forM t b (d :: ds) ρ = .ok (.rt r, ρ2) := by
  conv => lhs; unfold forM
  rw [h1]
  dsimp only
  rw [h2]
/-! slices of lists -/
theorem cut_from {xs : List D} {k : Nat} (h : k ≤ xs.length) : cutD xs (some (k : Int)) none = xs.drop k := by
  unfold cutD
  rw [HT.sIx_nat, HT.sIx_none, Nat.min_eq_left h]
  exact List.take_of_length_le (by rw [List.length_drop]; omega)
theorem cut_to {xs : List D} {k : Nat} (h : k ≤ xs.length) : cutD xs none (some (k : Int)) = xs.take k := by
  unfold cutD
  rw [HT.sIx_nat, HT.sIx_none, Nat.min_eq_left h, List.drop_zero, Nat.sub_zero]
theorem sl_from {xs : List D} {k : Nat} (h : k ≤ xs.length) : slLD (.lst xs) (some (k : Int)) none = .ok (.lst (xs.drop k)) := by
  show Res.ok (D.lst (cutD xs (some (k : Int)) none)) = _
  rw [cut_from h]
theorem sl_to {xs : List D} {k : Nat} (h : k ≤ xs.length) : slLD (.lst xs) none (some (k : Int)) = .ok (.lst (xs.take k)) := by
  show Res.ok (D.lst (cutD xs none (some (k : Int)))) = _
  rw [cut_to h]
theorem sl_to_min {xs : List D} {k : Nat} : slLD (.lst xs) none (some (k : Int)) = .ok (.lst (xs.take k)) := by
  show Res.ok (D.lst (cutD xs none (some (k : Int)))) = _
  unfold cutD
  rw [HT.sIx_nat, HT.sIx_none, List.drop_zero, Nat.sub_zero]
  congr 2
  by_cases h : k ≤ xs.length
  · rw [Nat.min_eq_left h]
  · rw [Nat.min_eq_right (by omega), List.take_of_length_le (Nat.le_refl _), List.take_of_length_le (by omega)]
/-! comprehensions without an effect -/
theorem compM_pure {vs : List Nat} {t : Tgt} {c : EM Bool} {e : EM D} {ρ0 : Ev} (p : D → Bool) (f : D → D) : ∀ (ds : List D) (acc : List D), (∀ d ∈ ds, ∃ ρ1, t d ρ0 = .ok ρ1 ∧ c ρ1 = .ok (p d, ρ1) ∧ (p d = true → e ρ1 = .ok (f d, ρ1)) ∧ wipeE ρ1 vs = ρ0) → acc.length + ds.length < 10000 → compM vs t c e ds ρ0 acc = .ok (acc ++ (ds.filter p).map f, ρ0)
  | [], acc, _, _ => by simp [compM]
  | d :: ds, acc, h, hz => by
    obtain ⟨ρ1, h1, h2, h3, h4⟩ := h d List.mem_cons_self
    unfold compM
    rw [h1]
    dsimp only
    rw [h2]
    cases q : p d with
    | true =>
      dsimp only
      rw [h3 q]
      dsimp only
      rw [if_pos (by rw [sizeLine_eq]; simp at hz; omega), h4, compM_pure p f ds _ (fun x hx => h x (List.mem_cons_of_mem _ hx)) (by simp at hz ⊢; omega), List.filter_cons_of_pos q, List.map_cons, List.append_assoc]
      rfl
    | false =>
      dsimp only
      rw [h4, compM_pure p f ds _ (fun x hx => h x (List.mem_cons_of_mem _ hx)) (by simp at hz ⊢; omega), List.filter_cons_of_neg (by rw [q]; decide)]
/-- .. of what comes from another list -/
theorem compM_of {α : Type} {vs : List Nat} {t : Tgt} {c : EM Bool} {e : EM D} {ρ0 : Ev} (g : α → D) (p : α → Bool) (f : α → D) : ∀ (xs : List α) (acc : List D), (∀ x ∈ xs, ∃ ρ1, t (g x) ρ0 = .ok ρ1 ∧ c ρ1 = .ok (p x, ρ1) ∧ (p x = true → e ρ1 = .ok (f x, ρ1)) ∧ wipeE ρ1 vs = ρ0) → acc.length + xs.length < 10000 → compM vs t c e (xs.map g) ρ0 acc = .ok (acc ++ (xs.filter p).map f, ρ0)
  | [], acc, _, _ => by simp [compM]
  | d :: ds, acc, h, hz => by
    obtain ⟨ρ1, h1, h2, h3, h4⟩ := h d List.mem_cons_self
    rw [List.map_cons]
    unfold compM
    rw [h1]
    dsimp only
    rw [h2]
    cases q : p d with
    | true =>
      dsimp only
      rw [h3 q]
      dsimp only
      rw [if_pos (by rw [sizeLine_eq]; simp at hz; omega), h4, compM_of g p f ds _ (fun x hx => h x (List.mem_cons_of_mem _ hx)) (by simp at hz ⊢; omega), List.filter_cons_of_pos q, List.map_cons, List.append_assoc]
      rfl
    | false =>
      dsimp only
      rw [h4, compM_of g p f ds _ (fun x hx => h x (List.mem_cons_of_mem _ hx)) (by simp at hz ⊢; omega), List.filter_cons_of_neg (by rw [q]; decide)]
/-- .. all of them -/
theorem compM_all {α : Type} {vs : List Nat} {t : Tgt} {e : EM D} {ρ0 : Ev} (g : α → D) (f : α → D) (xs : List α) (h : ∀ x ∈ xs, ∃ ρ1, t (g x) ρ0 = .ok ρ1 ∧ e ρ1 = .ok (f x, ρ1) ∧ wipeE ρ1 vs = ρ0) (hz : xs.length < 10000) : compM vs t eYes e (xs.map g) ρ0 [] = .ok (xs.map f, ρ0) := by
  have := compM_of (vs := vs) (t := t) (c := eYes) (e := e) (ρ0 := ρ0) g (fun _ => true) f xs [] (fun x hx => by
    obtain ⟨ρ1, h1, h2, h3⟩ := h x hx
    exact ⟨ρ1, h1, rfl, fun _ => h2, h3⟩) (by simpa using hz)
  rw [this, List.filter_eq_self.mpr (by simp)]
  rfl
/-- .. that changes what stands in other slots: R tells what is made so far -/
theorem compM_rel {α : Type} {vs : List Nat} {t : Tgt} {e : EM D} (g : α → D) (R : List α → List D → Ev → Prop) : ∀ (xs done : List α) (acc : List D) (ρ : Ev), R done acc ρ → acc.length + xs.length < 10000 → (∀ x pre acc ρ, x ∈ xs → R pre acc ρ → ∃ ρ1 v ρ2, t (g x) ρ = .ok ρ1 ∧ e ρ1 = .ok (v, ρ2) ∧ R (pre ++ [x]) (acc ++ [v]) (wipeE ρ2 vs)) → ∃ out ρ', compM vs t eYes e (xs.map g) ρ acc = .ok (out, ρ') ∧ R (done ++ xs) out ρ'
  | [], done, acc, ρ, h, _, _ => ⟨acc, ρ, rfl, by simpa using h⟩
  | x :: xs, done, acc, ρ, h, hz, st => by
    obtain ⟨ρ1, v, ρ2, h1, h2, h3⟩ := st x done acc ρ List.mem_cons_self h
    obtain ⟨out, ρ', h4, h5⟩ := compM_rel g R xs (done ++ [x]) (acc ++ [v]) _ h3 (by simp at hz ⊢; omega) fun y pre acc ρ hy hI => st y pre acc ρ (List.mem_cons_of_mem _ hy) hI
    refine ⟨out, ρ', ?_, by simpa using h5⟩
    rw [List.map_cons]
    unfold compM
    rw [h1]
    dsimp only
    rw [ap_yes]
    dsimp only
    rw [h2]
    dsimp only
    rw [if_pos (by rw [sizeLine_eq]; simp at hz; omega)]
    exact h4
/-! dicts by names -/
def kvS (ks : List Str) (f : Str → D) : List (D × D) := ks.map fun k => (.str k, f k)
def dS (ks : List Str) (f : Str → D) : D := .dic false (kvS ks f)
theorem kEq_str (a b : Str) : kEq (.str a) (.str b) = decide (a = b) := rfl
theorem look_kvS {f : Str → D} {q : Str} : ∀ {ks : List Str}, lookD (kvS ks f) (.str q) = if q ∈ ks then some (f q) else none
  | [] => rfl
  | k :: ks => by
    show (if kEq (.str k) (.str q) = true then some (f k) else lookD (kvS ks f) (.str q)) = _
    rw [kEq_str, look_kvS]
    by_cases h : k = q
    · subst h; simp
    · have h' : ¬ q = k := fun z => h z.symm
      simp [h, h']
theorem has_kvS {f : Str → D} {q : Str} : ∀ {ks : List Str}, hasD (kvS ks f) (.str q) = decide (q ∈ ks)
  | [] => rfl
  | k :: ks => by
    show (kEq (.str k) (.str q) || hasD (kvS ks f) (.str q)) = _
    rw [kEq_str, has_kvS]
    by_cases h : k = q
    · subst h; simp
    · have h' : ¬ q = k := fun z => h z.symm
      simp [h, h']
theorem put_kvS {f : Str → D} {q : Str} {d : D} {ks : List Str} : putD (kvS ks f) (.str q) d = kvS (if q ∈ ks then ks else ks ++ [q]) (fun x => if x = q then d else f x) := by
  unfold putD
  rw [has_kvS]
  by_cases h : q ∈ ks
  · rw [if_pos (by simpa using h), if_pos h]
    unfold kvS
    rw [List.map_map]
    refine List.map_congr_left fun k hk => ?_
    show (if kEq (.str k) (.str q) = true then (D.str k, d) else (D.str k, f k)) = _
    rw [kEq_str]
    by_cases e : k = q
    · subst e; simp
    · simp [e]
  · rw [if_neg (by simpa using h), if_neg h]
    unfold kvS
    rw [List.map_append]
    congr 1
    · refine List.map_congr_left fun k hk => ?_
      have : ¬ k = q := fun z => h (z ▸ hk)
      simp [this]
    · simp
theorem kvS_congr {ks : List Str} {f g : Str → D} (h : ∀ k ∈ ks, f k = g k) : kvS ks f = kvS ks g := List.map_congr_left fun k hk => by rw [h k hk]
theorem dS_congr {ks : List Str} {f g : Str → D} (h : ∀ k ∈ ks, f k = g k) : dS ks f = dS ks g := by unfold dS; rw [kvS_congr h]
theorem kvS_keys (ks : List Str) (f : Str → D) : (kvS ks f).map (·.1) = ks.map D.str := by
  unfold kvS
  rw [List.map_map]
  rfl
@[simp] theorem kvS_len (ks : List Str) (f : Str → D) : (kvS ks f).length = ks.length := by unfold kvS; rw [List.length_map]
theorem ix_dS {ks : List Str} {f : Str → D} {q : Str} (h : q ∈ ks) : ixD (dS ks f) (.str q) = .ok (f q) := by
  show (match lookD (kvS ks f) (.str q) with | some d => Res.ok d | none => .bad) = _
  rw [look_kvS, if_pos h]
theorem get2_dS {ks : List Str} {f : Str → D} {q : Str} {z : D} : getD2 (dS ks f) (.str q) z = .ok (if q ∈ ks then f q else z) := by
  show Res.ok ((lookD (kvS ks f) (.str q)).getD z) = _
  rw [look_kvS]
  by_cases h : q ∈ ks <;> simp [h]
theorem get1_dS {ks : List Str} {f : Str → D} {q : Str} : getD1 (dS ks f) (.str q) = .ok (if q ∈ ks then f q else .non) := by
  show Res.ok ((lookD (kvS ks f) (.str q)).getD .non) = _
  rw [look_kvS]
  by_cases h : q ∈ ks <;> simp [h]
theorem in_dS {ks : List Str} {f : Str → D} {q : Str} : inD (.str q) (dS ks f) = .ok (decide (q ∈ ks)) := by
  show Res.ok (lookD (kvS ks f) (.str q)).isSome = _
  rw [look_kvS]
  by_cases h : q ∈ ks <;> simp [h]
theorem notin_dS {ks : List Str} {f : Str → D} {q : Str} : notInD (.str q) (dS ks f) = .ok (!decide (q ∈ ks)) := by
  unfold notInD
  rw [in_dS]
theorem set_dS {ks : List Str} {f : Str → D} {q : Str} {d : D} (h : ks.length < 10000) : setD1 (dS ks f) (.str q) d = .ok (dS (if q ∈ ks then ks else ks ++ [q]) (fun x => if x = q then d else f x)) := by
  show (if (kvS ks f).length < sizeLine then Res.ok (D.dic false (putD (kvS ks f) (.str q) d)) else .bad) = _
  rw [if_pos (by rw [kvS_len, sizeLine_eq]; omega), put_kvS]
  rfl
theorem sorted_dS {ks : List Str} {f : Str → D} (h : ks.length < 64) : sortedD (dS ks f) = .ok (.lst ((strSort ks).map D.str)) := by
  unfold sortedD dS
  dsimp only
  rw [if_pos (by rw [kvS_len]; exact h), kvS_keys, strsOf_map]
@[simp] theorem dict_dS (ks : List Str) (f : Str → D) : dictD (dS ks f) = .ok (dS ks f) := rfl
@[simp] theorem keys_dS (ks : List Str) (f : Str → D) : gKeys (dS ks f) = .ok (ks.map D.str) := by
  show Res.ok ((kvS ks f).map (·.1)) = _
  rw [kvS_keys]
@[simp] theorem len_dS (ks : List Str) (f : Str → D) : lenD (dS ks f) = .ok (.int ks.length) := by
  show Res.ok (D.int (kvS ks f).length) = _
  rw [kvS_len]
@[simp] theorem isDic_dS (ks : List Str) (f : Str → D) : isDic (dS ks f) = true := rfl
@[simp] theorem isi_dS_dict (ks : List Str) (f : Str → D) : isiD "dict" (dS ks f) = .ok (.bl true) := isi_dic_dict _ _
@[simp] theorem isC_dS (ks : List Str) (f : Str → D) : isC (dS ks f) .non = .ok false := rfl
@[simp] theorem isNotC_dS (ks : List Str) (f : Str → D) : isNotC (dS ks f) .non = .ok true := rfl
theorem nil_dS (f : Str → D) : D.dic false [] = dS [] f := rfl
/-- walking a dict by names -/
theorem forA_dS {i : Nat} {t : Tgt} {b : SM} {ρ : Ev} {ks : List Str} {f : Str → D} {r : Fl × Ev} (h : ρ[i]? = some (some (dS ks f))) (h2 : forM t b (ks.map D.str) ρ = .ok r) : forA i t b ρ = .ok r := by
  unfold dS at h
  rw [ap_forA, h]
  dsimp only
  rw [ap_noX, ap_for, ap_e1, ap_var, h]
  dsimp only
  rw [gKeys_dic, ap_liftOk]
  dsimp only
  rw [kvS_keys, h2]
theorem forA_lst {i : Nat} {t : Tgt} {b : SM} {ρ : Ev} {ds : List D} (h : ρ[i]? = some (some (.lst ds))) : forA i t b ρ = forM t b ds ρ := by
  rw [ap_forA, h]
  dsimp only
  rw [ap_for, ap_e1, ap_var, h]
  rfl
theorem compA_dS {vs : List Nat} {i : Nat} {t : Tgt} {c : EM Bool} {e : EM D} {ρ : Ev} {ks : List Str} {f : Str → D} (h : ρ[i]? = some (some (dS ks f))) : eCompA vs i t c e ρ = (match compM vs t c e (ks.map D.str) (wipeE ρ vs) [] with
    | .ok (acc, ρ2) => .ok (.lst acc, restE ρ vs ρ2)
    | _ => .bad) := by
  unfold dS at h
  rw [ap_compA, h]
  dsimp only
  rw [ap_comp, ap_e1, ap_var, h]
  dsimp only
  rw [gKeys_dic, ap_liftOk]
  dsimp only
  rw [kvS_keys]
theorem compA_lst {vs : List Nat} {i : Nat} {t : Tgt} {c : EM Bool} {e : EM D} {ρ : Ev} {ds : List D} (h : ρ[i]? = some (some (.lst ds))) : eCompA vs i t c e ρ = (match compM vs t c e ds (wipeE ρ vs) [] with
    | .ok (acc, ρ2) => .ok (.lst acc, restE ρ vs ρ2)
    | _ => .bad) := by
  rw [ap_compA, h]
  dsimp only
  rw [ap_comp, ap_e1, ap_var, h]
  rfl
/-- a dict comprehension over names -/
theorem dcomp_all {α : Type} {vs : List Nat} {t : Tgt} {ek e : EM D} {ρ0 : Ev} (g : α → D) (kf : α → Str) (f : Str → D) : ∀ (xs : List α) (ks : List Str), (∀ x ∈ xs, ∃ ρ1, t (g x) ρ0 = .ok ρ1 ∧ ek ρ1 = .ok (.str (kf x), ρ1) ∧ e ρ1 = .ok (f (kf x), ρ1) ∧ wipeE ρ1 vs = ρ0) → (ks ++ xs.map kf).Nodup → ks.length + xs.length < 10000 → dcompM vs t eYes ek e (xs.map g) ρ0 (kvS ks f) = .ok (kvS (ks ++ xs.map kf) f, ρ0)
  | [], ks, _, _, _ => by simp [dcompM]
  | x :: xs, ks, h, hn, hz => by
    obtain ⟨ρ1, h1, h2, h3, h4⟩ := h x List.mem_cons_self
    have nk : kf x ∉ ks := fun z => by
      rw [List.map_cons] at hn
      exact (List.nodup_append.mp hn).2.2 _ z _ List.mem_cons_self rfl
    rw [List.map_cons]
    unfold dcompM
    rw [h1]
    dsimp only
    rw [ap_yes]
    dsimp only
    rw [h2]
    dsimp only
    rw [h3]
    dsimp only
    show (match asKey (.str (kf x)) with
      | some _ => if (kvS ks f).length < sizeLine then dcompM vs t eYes ek e (xs.map g) (wipeE ρ1 vs) (putD (kvS ks f) (.str (kf x)) (f (kf x))) else .bad
      | none => .bad) = _
    show (if (kvS ks f).length < sizeLine then dcompM vs t eYes ek e (xs.map g) (wipeE ρ1 vs) (putD (kvS ks f) (.str (kf x)) (f (kf x))) else .bad) = _
    rw [if_pos (by rw [kvS_len, sizeLine_eq]; omega), put_kvS, if_neg nk, h4]
    rw [kvS_congr (g := f) (fun k _ => by by_cases e : k = kf x <;> simp [e])]
    rw [dcomp_all g kf f xs (ks ++ [kf x]) (fun y hy => h y (List.mem_cons_of_mem _ hy)) (by simpa using hn) (by simp at hz ⊢; omega)]
    simp
/-! texts as lists -/
theorem toPs_strs : ∀ ns : List Str, toP.toPs (ns.map D.str) = some (ns.map PyData.str)
  | [] => rfl
  | n :: ns => by
    rw [List.map_cons, List.map_cons]
    unfold toP.toPs
    rw [toPs_strs ns]
    rfl
theorem lay_strs : ∀ ns : List Str, (∀ x ∈ ns, PyData.strOk x = true) → PyData.canLayAll0 (ns.map PyData.str) = true
  | [], _ => rfl
  | n :: ns, h => by
    rw [List.map_cons]
    unfold PyData.canLayAll0
    rw [lay_strs ns fun x hx => h x (List.mem_cons_of_mem _ hx)]
    unfold PyData.canLay0
    rw [h n List.mem_cons_self]
    rfl
theorem depth_strs : ∀ ns : List Str, PyData.depthAll (ns.map PyData.str) = 0
  | [] => rfl
  | n :: ns => by
    rw [List.map_cons]
    unfold PyData.depthAll
    rw [depth_strs ns]
    rfl
theorem eqv_strs : ∀ ns ms : List Str, PyData.eqvAll (ns.map PyData.str) (ms.map PyData.str) = decide (ns = ms)
  | [], [] => rfl
  | [], _ :: _ => rfl
  | _ :: _, [] => rfl
  | n :: ns, m :: ms => by
    rw [List.map_cons, List.map_cons]
    unfold PyData.eqvAll
    rw [eqv_strs ns ms]
    unfold PyData.eqv
    by_cases h : n = m
    · subst h; simp
    · simp [h]
theorem eqD_strs {ns ms : List Str} (hn : ∀ x ∈ ns, PyData.strOk x = true) (hm : ∀ x ∈ ms, PyData.strOk x = true) : eqD (.lst (ns.map .str)) (.lst (ms.map .str)) = .ok (decide (ns = ms)) := by
  have h1 : toP (.lst (ns.map .str)) = some (.list (ns.map .str)) := by unfold toP; rw [toPs_strs]; rfl
  have h2 : toP (.lst (ms.map .str)) = some (.list (ms.map .str)) := by unfold toP; rw [toPs_strs]; rfl
  have s : ∀ ns : List Str, (∀ x ∈ ns, PyData.strOk x = true) → SeqAt.shaped (.list (ns.map .str)) = true := fun ns h => by
    unfold SeqAt.shaped PyData.canLay0 PyData.depth
    rw [lay_strs ns h, depth_strs]
    rfl
  unfold eqD
  rw [h1, h2]
  dsimp only
  rw [if_pos ⟨s ns hn, s ms hm⟩]
  unfold PyData.eqv
  rw [eqv_strs]
theorem neD_strs {ns ms : List Str} (hn : ∀ x ∈ ns, PyData.strOk x = true) (hm : ∀ x ∈ ms, PyData.strOk x = true) : neD (.lst (ns.map .str)) (.lst (ms.map .str)) = .ok (!decide (ns = ms)) := by
  unfold neD; rw [eqD_strs hn hm]
theorem eqD_str {a b : Str} (ha : PyData.strOk a = true) (hb : PyData.strOk b = true) : eqD (.str a) (.str b) = .ok (decide (a = b)) := by
  simp [eqD, toP, SeqAt.shaped, PyData.canLay0, PyData.depth, PyData.eqv, ha, hb]
  by_cases h : a = b
  · subst h; simp
  · simp [h]
theorem neD_str {a b : Str} (ha : PyData.strOk a = true) (hb : PyData.strOk b = true) : neD (.str a) (.str b) = .ok (!decide (a = b)) := by
  unfold neD; rw [eqD_str ha hb]
theorem intsOf_map : ∀ xs : List Int, intsOf (xs.map D.int) = some xs
  | [] => rfl
  | x :: xs => by
    show (intsOf (xs.map D.int)).map (x :: ·) = _
    rw [intsOf_map xs]; rfl
theorem allD_map {α : Type} (xs : List α) (p : α → Bool) : allD (.lst (xs.map fun x => .bl (p x))) = .ok (.bl (xs.all p)) := by
  have : ∀ xs : List α, blsOf (xs.map fun x => .bl (p x)) = some (xs.map p) := fun xs => by
    induction xs with
    | nil => rfl
    | cons x xs ih =>
      show (blsOf (xs.map fun x => .bl (p x))).map (p x :: ·) = _
      rw [ih]; rfl
  show (match blsOf (xs.map fun x => .bl (p x)) with | some bs => Res.ok (D.bl (bs.all id)) | none => .bad) = _
  rw [this]
  simp [List.all_map]
theorem anyD_map {α : Type} (xs : List α) (p : α → Bool) : anyD (.lst (xs.map fun x => .bl (p x))) = .ok (.bl (xs.any p)) := by
  have : ∀ xs : List α, blsOf (xs.map fun x => .bl (p x)) = some (xs.map p) := fun xs => by
    induction xs with
    | nil => rfl
    | cons x xs ih =>
      show (blsOf (xs.map fun x => .bl (p x))).map (p x :: ·) = _
      rw [ih]; rfl
  show (match blsOf (xs.map fun x => .bl (p x)) with | some bs => Res.ok (D.bl (bs.any id)) | none => .bad) = _
  rw [this]
  simp [List.any_map]
theorem sumD_map {α : Type} (xs : List α) (p : α → Int) : sumD (.lst (xs.map fun x => .int (p x))) = .ok (.int (xs.map p).sum) := by
  have : xs.map (fun x => D.int (p x)) = (xs.map p).map D.int := by rw [List.map_map]; rfl
  show (match intsOf (xs.map fun x => .int (p x)) with | some bs => Res.ok (D.int bs.sum) | none => .bad) = _
  rw [this, intsOf_map]
/-! a list of texts, sorted -/
theorem encP_str (x : Str) : encP (.str x) = .str x := rfl
theorem dataLe_strs : (fun (a b : Str) => PySem.W.dataLe false encP (.str a) (.str b)) = strLe := by
  funext a b
  show (!PySem.W.dataLt (.str b) (.str a)) = _
  rw [PySem.W.dataLt_str, PySem.W.not_lt_str]
  rfl
theorem cmp_strs (ns : List Str) : cmpAll (ns.map PyData.str) = true := by
  unfold cmpAll
  simp only [Bool.and_eq_true, Bool.or_eq_true, List.all_eq_true, decide_eq_true_eq, List.mem_map]
  refine ⟨⟨?_, .inr ?_⟩, ?_⟩
  · rintro p ⟨a, _, rfl⟩ q ⟨b, _, rfl⟩
    unfold PySem.W.alike; rfl
  · rintro p ⟨a, _, rfl⟩
    rfl
  · rintro p ⟨a, _, rfl⟩
    unfold PyData.depth; omega
theorem sorted_strs (ns : List Str) : sortedD (.lst (ns.map .str)) = .ok (.lst ((strSort ns).map .str)) := by
  show sortL (ns.map .str) = _
  unfold sortL
  rw [show toPs (ns.map D.str) = some (ns.map PyData.str) from toPs_strs ns]
  dsimp only
  rw [if_pos (cmp_strs ns)]
  congr 2
  unfold strSort
  rw [List.map_mergeSort (s := PySem.W.dataLe false encP) (fun a _ b _ => (congrFun (congrFun dataLe_strs a) b).symm)]
theorem strSort_mem {x : Str} {l : List Str} : x ∈ strSort l ↔ x ∈ l := (strSort_perm l).mem_iff
theorem strSort_len (l : List Str) : (strSort l).length = l.length := (strSort_perm l).length_eq
theorem strSort_nodup {l : List Str} : (strSort l).Nodup ↔ l.Nodup := (strSort_perm l).nodup_iff
theorem strSort_congr {l m : List Str} (h : l.Perm m) : strSort l = strSort m := strSort_uniq ((strSort_perm l).trans h) (strSort_pw l)
/-- pairs of a name and what it has, sorted: by the names, if these differ -/
def tupS (f : Str → D) (n : Str) : D := .tup [.str n, f n]
theorem sorted_pairs {S : List Str} {f : Str → Int} (hn : S.Nodup) : sortedD (.lst (S.map (tupS fun n => .int (f n)))) = .ok (.lst ((strSort S).map (tupS fun n => .int (f n)))) := by
  have tp : ∀ S : List Str, toPs (S.map (tupS fun n => .int (f n))) = some (S.map fun n => PyData.tuple [.str n, .int (f n)]) := fun S => by
    induction S with
    | nil => rfl
    | cons n S ih =>
      rw [List.map_cons, List.map_cons]
      show (match toP (tupS (fun n => .int (f n)) n), toPs (S.map (tupS fun n => .int (f n))) with
        | some p, some ps => some (p :: ps)
        | _, _ => none) = _
      rw [ih]
      rfl
  have al : ∀ a b : Str, PySem.W.alike (.tuple [.str a, .int (f a)]) (.tuple [.str b, .int (f b)]) = true := fun a b => by
    simp [PySem.W.alike, PySem.W.alikeAll]
  show sortL (S.map (tupS fun n => .int (f n))) = _
  unfold sortL
  rw [tp]
  dsimp only
  have hc : cmpAll (S.map fun n => PyData.tuple [.str n, .int (f n)]) = true := by
    unfold cmpAll
    simp only [Bool.and_eq_true, Bool.or_eq_true, List.all_eq_true, decide_eq_true_eq, List.mem_map]
    refine ⟨⟨?_, .inl ?_⟩, ?_⟩
    · rintro p ⟨a, _, rfl⟩ q ⟨b, _, rfl⟩
      exact al a b
    · rintro p ⟨a, _, rfl⟩
      rfl
    · rintro p ⟨a, _, rfl⟩
      simp [PyData.depth, PyData.depthAll]
  rw [if_pos hc]
  congr 2
  unfold strSort
  rw [List.map_mergeSort (s := PySem.W.dataLe false encP) (fun a _ b _ => ?_)]
  show strLe a b = !PySem.W.dataLt (.tuple [.str b, .int (f b)]) (.tuple [.str a, .int (f a)])
  rw [PySem.W.dataLt_pair (by simp [PySem.W.alike]) (by simp [PySem.W.alike])]
  by_cases e : a = b
  · subst e
    have e1 : PyData.eqv (.str a) (.str a) = true := by simp [PyData.eqv]
    have e2 : PyData.eqv (.int (f a)) (.int (f a)) = true := by simp [PyData.eqv]
    rw [if_pos e1, if_pos e2]
    have := strLe_total a a
    simpa using this
  · have e1 : PyData.eqv (.str b) (.str a) = false := by
      simp [PyData.eqv]
      exact fun z => e z.symm
    rw [e1, if_neg (by decide), PySem.W.dataLt_str, PySem.W.not_lt_str]
    rfl
end DL
/-! DL22: {**x, k: e}. -/
namespace DL
open PySem PySem.Spec L2
set_option autoImplicit false
section
variable {prog : Program} {w : World} {A : Around} {E : Value → Shared → Prop} {s : Shared} {κ : Type} [DecidableEq κ] {knd : KeyKind prog w κ}
/-- a pair goes into a dict, by the key's hash -/
theorem put_hash {d : Addr} {kvs : List (κ × Value)} {k : κ} {key v : Value} {Q : Unit → Shared → Prop} (hk : knd.is k key = true) (hd : s.heap.DictOf knd d kvs) (hz : kvs.length ≤ sizeLine)
    (hQ : ∀ h', h'.DictOf knd d (stored kvs k v) → Heap.SameBut d s.heap h' → Q () { s with heap := h' }) : wpAny (model prog w) A (dictPut d (knd.hash k) key v) Q E s := by
  obtain ⟨o, es, ep, h1, h2, h3, h4, h5, h6⟩ := hd
  have el : es.toList.length = kvs.length := h5.length
  have hes : es.size ≤ sizeLine := by rw [← Array.length_toList, el]; exact hz
  unfold dictPut
  refine wpAny_bind (wpAny_dictFind_of hk h1 h3 h4 ?_)
  have ix : (es.findIdx? fun e => knd.is k e.key) = kvs.findIdx? fun kv => decide (kv.1 = k) := by
    have := h5.findIdx k
    rw [← this]
    cases es
    simp
  cases q : es.findIdx? fun e => knd.is k e.key with
  | some i =>
    rw [q] at ix
    have hst : stored kvs k v = kvs.map fun kv => if kv.1 = k then (kv.1, v) else kv := if_pos (any_of_findIdx_some ix.symm)
    have sb := Heap.SameBut.update s.heap d (Obj.mapDict fun a => a.modify i fun e => { e with val := v })
    refine wpAny_updateDict h1 h3 (hQ _ ?_ sb)
    rw [hst]
    refine ⟨_, _, ep, Heap.get?_update_self _ h1 (Obj.isFreed_of_dict (Obj.data_mapDict h3 _)), h2.mapDict _, Obj.data_mapDict h3 _, h4.modify _ _, ?_, by rw [keys_map_store]; exact h6⟩
    have hl : (es.toList.findIdx? fun e => knd.is k e.key) = some i := by rw [← q]; cases es; simp
    have := h5.modify h6 hl v
    cases es
    simpa using this
  | none =>
    rw [q] at ix
    have hn : k ∉ kvs.map (·.1) := not_mem_of_findIdx_none ix.symm
    have hst : stored kvs k v = kvs ++ [(k, v)] := if_neg fun z => by
      obtain ⟨kv, hkv, e⟩ := List.any_eq_true.mp z
      exact hn (List.mem_map.mpr ⟨kv, hkv, of_decide_eq_true e⟩)
    refine wpAny_updateDictKeys (hz := hes) h1 h3 (hQ _ ?_ (Heap.SameBut.update ..))
    rw [hst]
    refine ⟨_, _, ep + 1, Heap.get?_update_self _ h1 (Obj.isFreed_of_dict (Obj.data_mapDictKeys h3 _)), h2.mapDictKeys _, Obj.data_mapDictKeys h3 _, h4.push hk _, ?_, ?_⟩
    · have := h5.append hk (knd.hash k) v
      cases es
      simpa using this
    · rw [List.map_append, List.nodup_append]
      exact ⟨h6, by simp, fun a ha b hb => by
        rw [List.map_cons, List.map_nil, List.mem_singleton] at hb
        rw [hb]
        intro z
        subst z
        exact hn ha⟩
/-- a dict is poured into another one -/
theorem pour {d a : Addr} {kvs more : List (κ × Value)} {Q : Unit → Shared → Prop} (ne : d ≠ a) (ha : (a == sysModules) = false) (hd : s.heap.DictOf knd d kvs) (hm : s.heap.DictOf knd a more) (hz : kvs.length + more.length ≤ sizeLine)
    (hQ : ∀ h', h'.DictOf knd d (merged kvs more) → Heap.SameBut d s.heap h' → Q () { s with heap := h' }) : wpAny (model prog w) A (mergeMapping d (.ref a) false) Q E s := by
  obtain ⟨o, es, ep, h1, h2, h3, h4, h5, h6⟩ := id hm
  obtain ⟨od, esd, epd, g1, g2, g3, _⟩ := id hd
  have el : es.size = more.length := by rw [← h5.length, Array.length_toList]
  unfold mergeMapping
  refine wpAny_bind (wpAny_isInstance hm.typeIs isSubtype_dict_dict ?_)
  rw [if_pos rfl]
  refine wpAny_bind (wpAny_specialOf hm.typeIs F.slot_dict_iter.lookup (wpAny_bind (wpAny_pure ?_)))
  simp only [beq_self_eq_true]
  rw [if_neg (by rw [ha]; exact Bool.false_ne_true)]
  refine wpAny_bind (wpAny_dictEntries g1 g3 ?_)
  have quiet : ∀ (f : DictEntry → PUnit → Sem (ForInStep PUnit)), (∀ e ∈ es.toList, ∀ c, f e c = pure (.yield c)) → forIn es PUnit.unit f = (pure PUnit.unit : Sem PUnit) := fun f hf => by
    rw [← Array.forIn_toList]
    exact forIn_yield_id _ hf
  have lastly : ∀ (f : Nat → PUnit → Sem (ForInStep PUnit)), (∀ i kv e s', more[i]? = some kv → es[i]? = some e → s'.heap.get? a = some o → ∀ (kvs' : List (κ × Value)) (Q' : ForInStep PUnit → Shared → Prop), s'.heap.DictOf knd d kvs' → kvs'.length ≤ sizeLine →
      (∀ h', h'.DictOf knd d (stored kvs' kv.1 kv.2) → Heap.SameBut d s'.heap h' → Q' (.yield PUnit.unit) { s' with heap := h' }) → wpAny (model prog w) A (f i PUnit.unit) Q' E s') →
      wpAny (model prog w) A (forIn (List.range es.size) PUnit.unit f >>= fun _ => pure ()) Q E s := fun f hf => by
    refine wpAny_bind ?_
    refine wpAny_forIn_list f (fun rest _ s' => ∃ i h', rest = List.range' i (es.size - i) ∧ i ≤ es.size ∧ s' = { s with heap := h' } ∧ h'.DictOf knd d (merged kvs (more.take i)) ∧ Heap.SameBut d s.heap h') _ ?_ ?_ _ _ ⟨0, s.heap, by rw [Nat.sub_zero, List.range_eq_range'], Nat.zero_le _, rfl, hd, Heap.SameBut.refl _ _⟩
    · rintro x rest u s' ⟨i, h', e1, e2, rfl, e4, e5⟩
      have lt : i < es.size := by
        rcases Nat.lt_or_ge i es.size with c | c
        · exact c
        · rw [Nat.sub_eq_zero_of_le c] at e1
          cases e1
      rw [show es.size - i = (es.size - (i + 1)) + 1 by omega, List.range'_succ] at e1
      injection e1 with e1 e6
      subst e1
      have lm : x < more.length := by rw [← el]; exact lt
      have hkv : more[x]? = some more[x] := List.getElem?_eq_getElem lm
      refine hf x more[x] es[x] _ hkv (Array.getElem?_eq_getElem lt) ((e5.2 a (Ne.symm ne)).trans h1) _ _ e4 ?_ fun h'' q1 q2 => ⟨x + 1, h'', e6, lt, rfl, ?_, e5.trans q2⟩
      · have z1 := merged_length_le kvs (more.take x)
        have z2 : (more.take x).length ≤ more.length := by rw [List.length_take]; exact Nat.min_le_right _ _
        omega
      · rw [merged_take_succ kvs more x _ hkv]; exact q1
    · rintro u s' ⟨i, h', e1, e2, rfl, e4, e5⟩
      have eq : i = es.size := by
        rcases Nat.lt_or_ge i es.size with c | c
        · rw [show es.size - i = (es.size - (i + 1)) + 1 by omega, List.range'_succ] at e1
          cases e1
        · exact Nat.le_antisymm e2 c
      rw [eq, el, List.take_length] at e4
      exact wpAny_pure (hQ h' e4 e5)
  split
  focus
    refine wpAny_bind (wpAny_dictEntries h1 h3 ?_)
    refine wpAny_bind (wpAny_of_eq (quiet _ ?_) ?_)
    focus
      intro e he c
      obtain ⟨k, hk, _⟩ := h4 e (Array.mem_toList_iff.mp he)
      have bv := knd.byValue k _ hk
      split
      · rename_i b hb
        rw [hb] at bv
        simp [carriedByValue] at bv
      · rfl
  all_goals
    refine wpAny_bind (wpAny_dictEntries h1 h3 ?_)
    refine wpAny_bind (wpAny_dictEpoch h1 h3 ?_)
    refine lastly _ fun i kv e s' hi he ho kvs' Q' hd' hz' hq => ?_
    refine wpAny_bind (wpAny_dictEntries ho h3 ?_)
    rw [he]
    dsimp only
    refine wpAny_bind (wpAny_holding ?_)
    rw [if_neg Bool.false_ne_true]
    have lt : i < es.toList.length := by
      rw [Array.length_toList]
      exact (Array.getElem?_eq_some_iff.mp he).1
    have hel : es.toList[i]? = some e := by rw [Array.getElem?_toList]; exact he
    obtain ⟨p1, p2⟩ := h5.get? hel hi
    obtain ⟨k', p3, p4⟩ := h4 e (Array.mem_toList_iff.mp (List.mem_of_getElem? hel))
    cases knd.inj _ _ _ p3 p1
    rw [p4, p2]
    refine put_hash p1 hd' hz' fun h' q1 q2 => ?_
    refine wpAny_bind (wpAny_dictEpoch ((q2.2 a (Ne.symm ne)).trans ho) h3 ?_)
    rw [if_neg (by simp)]
    exact wpAny_pure (hq h' q1 q2)
/-- {**x, k: e}: first the new dict, then x poured, then the pair by a dict of its own -/
theorem disp_star {x' k' v' : Sem Value} {Q : Value → Shared → Prop}
    (h : wpAny (model prog w) A x' (fun u s1 => ∃ a kvs, u = .ref a ∧ s.heap.objs.size ≠ a ∧ (a == sysModules) = false ∧ s1.heap.DictOf knd s.heap.objs.size [] ∧ s1.heap.DictOf knd a kvs ∧ kvs.length + 1 ≤ sizeLine ∧
      ∀ h1, h1.DictOf knd s.heap.objs.size kvs → Heap.SameBut s.heap.objs.size s1.heap h1 →
        wpAny (model prog w) A k' (fun kv s2 => wpAny (model prog w) A v' (fun vv s3 => ∃ k, knd.is k kv = true ∧ s.heap.objs.size ≠ h1.objs.size ∧ (h1.objs.size == sysModules) = false ∧ ∃ kvs3, kvs3.length + 1 ≤ sizeLine ∧ s3.heap.DictOf knd s.heap.objs.size kvs3 ∧ s3.heap.DictOf knd h1.objs.size [] ∧
          ∀ h2 h3 t, h2.DictOf knd h1.objs.size [(k, vv)] → Heap.SameBut h1.objs.size s3.heap h2 → h3.DictOf knd s.heap.objs.size (stored kvs3 k vv) → Heap.SameBut s.heap.objs.size h2 h3 → Q (.ref s.heap.objs.size) { s3 with heap := h3, toks := t }) E s2) E
          { s1 with heap := h1.push { cls := .type "dict", data := .dict #[] } }) E { s with heap := s.heap.push { cls := .type "dict", data := .dict #[] } }) :
    wpAny (model prog w) A (dictDisplay [(none, x'), (some k', v')]) Q E s := by
  unfold dictDisplay
  simp only [List.forIn_cons, List.forIn_nil, bind_assoc, pure_bind, List.isEmpty_nil, if_true, List.nil_append, List.length_cons, List.length_nil]
  refine wpAny_bind (wpAny_alloc ?_)
  refine wpAny_bind (wpAny_holding (wpAny_mono h (fun u s1 h => ?_) fun _ _ e => e))
  obtain ⟨a, kvs, rfl, ne, ha, d0, da, hz, h⟩ := h
  refine wpAny_bind (wpAny_onRaise (wpAny_tryCatch (wpAny_onRaise (wpAny_holding (pour ne ha d0 da (by rw [List.length_nil]; omega) fun h1 d1 sb1 => ?_)))))
  have nd : merged [] kvs = kvs := by
    obtain ⟨_, _, _, _, _, _, _, _, h6⟩ := da
    exact merged_nil_of_nodup kvs h6
  rw [nd] at d1
  rw [if_neg (by decide)]
  try simp only [List.isEmpty_cons, Bool.false_eq_true, if_false, bind_assoc, pure_bind]
  refine wpAny_bind (wpAny_holding (wpAny_subDict (knd := knd) (show 1 ≤ 15 by decide) (evalPairs_cons (wpAny_mono (h h1 d1 sb1) (fun kv s2 h => wpAny_mono h (fun vv s3 h => evalPairs_nil ?_) fun _ _ e => e) fun _ _ e => e))))
  obtain ⟨k, hk, ne2, hs2, kvs3, hz3, dd, ds, h⟩ := h
  refine ⟨[(k, vv)], ⟨hk, rfl, trivial⟩, ds, fun h2 d2 sb2 => ?_⟩
  have e1 : merged [] [(k, vv)] = [(k, vv)] := rfl
  rw [e1] at d2
  have ne3 : h1.objs.size ≠ s.heap.objs.size := Ne.symm ne2
  refine wpAny_bind (wpAny_onRaise (wpAny_holding (pour ne2 hs2 (dd.sameBut sb2 ne3.symm) d2 (by rw [List.length_cons, List.length_nil]; omega) fun h3 d3 sb3 => wpAny_pure ?_)))
  exact h h2 h3 _ d2 sb2 d3 sb3
end
/-- {**x, k: e}, keys ints and texts -/
def tUpd (tx tk tv : TE) : TE := fun σ H Q => ∀ p, H p = none → tx σ (upd H p (.dK [])) fun x H1 => H1 p = some (.dK []) ∧ ∃ a kvs, x = .ref a ∧ p ≠ a ∧ Rd H1 a (.dK kvs) ∧ kvs.length < sizeLine ∧
  ∀ q, upd H1 p (.dK kvs) q = none → tk σ (upd (upd H1 p (.dK kvs)) q (.dK [])) fun y H2 => tv σ H2 fun z H3 => ∃ k, y = kV k ∧ H3 p = some (.dK kvs) ∧ H3 q = some (.dK []) ∧
    Q (.ref p) (upd (upd H3 q (.dK [(k, z)])) p (.dK (putK kvs k z)))
theorem pe_upd {X : Cx} {x k v : Expr} {pos : Pos} {tx tk tv : TE} (hx : PE X x tx) (hk : PE X k tk) (hv : PE X v tv) : PE X (.Dict [none, some k] [x, v] pos) (tUpd tx tk tv) := by
  refine ⟨fun pins s σ H Q I q => ?_⟩
  have hn := I.hok.fresh (Nat.le_refl s.heap.objs.size)
  have I1 := I.laid (a := s.heap.objs.size) (o := .dK []) (h' := s.heap.push { cls := .type "dict", data := .dict #[] }) (t' := s.toks) (fun _ _ q => Heap.get?_push_of_some _ q) (Nat.le_refl _) (dk_empty s.heap I.big)
  rw [arm_eval_Dict]
  refine wpAny_bind (wpAny_standAt ?_)
  have stood : ∀ {m : Sem Value} {Q' : Value → Shared → Prop} {s' : Shared}, wpAny (model X.prog X.w) X.A m Q' X.xe s' → wpAny (model X.prog X.w) X.A (do let u ← m; standAt pos; pure u) Q' X.xe s' := fun h =>
    wpAny_bind (wpAny_mono h (fun u s' h => wpAny_bind (wpAny_standAt (wpAny_pure h))) fun _ _ e => e)
  refine disp_star (knd := mixKind X.prog X.w) (x' := do let u ← eval x X.env; standAt pos; pure u) (k' := eval k X.env) (v' := do let u ← eval v X.env; standAt pos; pure u) ?_
  refine stood (thn (hx.run pins _ σ _ _ I1 (q _ hn)) fun u s1 ⟨y, H1, I2, ry, e1, a, kvs, ey, ne, ea, hz, q2⟩ => ?_)
  subst ey
  cases ry
  obtain ⟨z1, hd1, vs1, r1, dd1⟩ := dk_of I2.hok e1
  cases r1
  obtain ⟨z2, hd2, vs2, r2, dd2⟩ := dk_rd I2.hok ea
  refine ⟨a, vs2, rfl, ne, hd2, dd1, dd2, by rw [← r2.length]; exact hz, fun h1 d1 sb1 => ?_⟩
  have he1 : ∃ q, h1.get? s.heap.objs.size = some q := let ⟨q, _, _, hq, _⟩ := d1; ⟨q, hq⟩
  have I3 := d_write (t' := s1.toks) I2 (by rw [e1]; exact True.intro) sb1 he1 (dk_new z2 hd1 r2 d1)
  have hn3 := I3.hok.fresh (Nat.le_refl h1.objs.size)
  have I4 := I3.laid (a := h1.objs.size) (o := .dK []) (h' := h1.push { cls := .type "dict", data := .dict #[] }) (t' := s1.toks) (fun _ _ q => Heap.get?_push_of_some _ q) (Nat.le_refl _) (dk_empty h1 I3.big)
  refine thn (hk.run pins _ σ _ _ I4 (q2 _ hn3)) fun kv s2 ⟨y, H2, I5, ry, q3⟩ => stood (thn (hv.run pins _ σ _ _ I5 q3) fun vv s3 ⟨z, H3, I6, rz, kk, ek, e2, e3, q4⟩ => ?_)
  subst ek
  obtain ⟨z3, hd3, vs3, r3, dd3⟩ := dk_of I6.hok e2
  obtain ⟨z4, hd4, vs4, r4, dd4⟩ := dk_of I6.hok e3
  cases r4
  have nq : h1.objs.size ≠ s.heap.objs.size := fun z => by rw [z, upd_same] at hn3; cases hn3
  have hz3 : kvs.length < sizeLine := hz
  refine ⟨kk, kV_is ry, nq.symm, hd4, vs3, by rw [← r3.length]; exact hz, dd3, dd4, fun h2 h3 t d2 sb2 d3 sb3 => ?_⟩
  have he2 : ∃ q, h2.get? h1.objs.size = some q := let ⟨q, _, _, hq, _⟩ := d2; ⟨q, hq⟩
  have I7 := d_write (t' := s3.toks) I6 (by rw [e3]; exact True.intro) sb2 he2 (dk_new (kvs := [(kk, z)]) (by rw [sizeLine_eq]; show 1 ≤ _; decide) hd4 (.cons ⟨rfl, rz⟩ .nil) d2)
  have he3 : ∃ q, h3.get? s.heap.objs.size = some q := let ⟨q, _, _, hq, _⟩ := d3; ⟨q, hq⟩
  have e2' : upd H3 h1.objs.size (.dK [(kk, z)]) s.heap.objs.size = some (.dK kvs) := by rw [upd_ne nq.symm]; exact e2
  have hl := length_putK kvs kk z
  have I8 := d_write (t' := t) I7 (by rw [e2']; exact True.intro) sb3 he3 (dk_new (kvs := putK kvs kk z) (by omega) hd3 (r3.put kk rz) d3)
  exact ⟨.ref s.heap.objs.size, _, I8, rfl, q4⟩
/-! ### an object held aside: no slot's, no datum -/
structure Asd (os : List Bool) (g : Gh) (ρ : Ev) (σ : L2.St) (H F : Hp) (a : Addr) (o : HO) : Prop where
  f : F a = none
  h0 : g.H0 a = none
  h : H a = some o
  mu : Mut (some o)
  ne : ∀ (i : Nat) (d : D), os[i]? = some true → ρ[i]? = some (some d) → σ[i]? ≠ some (some (.ref a))
section
variable {K : Frag} {os : List Bool} {g : Gh} {ρ ρ' : Ev} {σ : L2.St} {H F H' F' : Hp} {a p : Addr} {o o' : HO}
theorem Asd.new (r : R K g os ρ σ H F) (hp : H p = none) (m : Mut (some o)) : Asd os g ρ σ (upd H p o) F p o :=
  ⟨r.none_of hp, r.h0_none hp, upd_same, m, fun i d h1 h2 h3 => by
    obtain ⟨b, q1, _, q3, _⟩ := r.ow i d h1 h2
    rw [h3] at q1; cases q1
    obtain ⟨u, q4, _⟩ := q3.there
    rw [hp] at q4; cases q4⟩
theorem Asd.step (x : Asd os g ρ σ H F a o) (r : R K g os ρ σ H F) (k : R K (g.at os ρ σ H F) os ρ' σ H' F') : Asd os g ρ' σ H' F' a o :=
  ⟨r.keepsF k x.h x.mu x.f, x.h0, r.keeps k x.h x.mu x.ne, x.mu, own_free x.ne ⟨_, x.h⟩ k⟩
theorem Asd.laid (x : Asd os g ρ σ H F a o) (hp : H p = none) : Asd os g ρ σ (upd H p o') F a o :=
  ⟨x.f, x.h0, upd_some hp x.h, x.mu, x.ne⟩
theorem Asd.other (x : Asd os g ρ σ H F a o) (ne : a ≠ p) : Asd os g ρ σ (upd H p o') F a o :=
  ⟨x.f, x.h0, by rw [upd_ne ne]; exact x.h, x.mu, x.ne⟩
theorem Asd.same (x : Asd os g ρ σ H F a o) (m : Mut (some o')) : Asd os g ρ σ (upd H a o') F a o' :=
  ⟨x.f, x.h0, upd_same, m, x.ne⟩
theorem Asd.r (x : Asd os g ρ σ H F a o) (r : R K g os ρ σ H F) : R K g os ρ σ (upd H a o') F := r.touch x.f x.h0 x.h x.mu x.ne
theorem Asd.free (x : Asd os g ρ σ H F a o) {d : D} (ho : OwnD K F H a d) : Free K os g ρ σ H F d a := ⟨x.f, ho, x.h0, x.ne⟩
end
def eStar (fx fk fv : EM D) : EM D := fun ρ => match fx ρ with
  | .ok (.dic false kvs, ρ1) => if kvs.length < sizeLine then (match fk ρ1 with
    | .ok (k, ρ2) => (match fv ρ2 with
      | .ok (v, ρ3) => (match asKey k with
        | some _ => .ok (.dic false (putD kvs k v), ρ3)
        | none => .bad)
      | _ => .bad)
    | _ => .bad) else .bad
  | _ => .bad
section
variable {X : Cx} {E : XK} {os : List Bool} {x k v : Expr} {pos : Pos} {fx fk fv : EM D}
theorem upd_read {K : Frag} {σ : L2.St} {H : Hp} {Q : VK} (h : sO K E os (eStar fx fk fv) σ H Q) : tUpd (sD K E os fx) (sD K E os fk) (sD K E os fv) σ H Q := by
  obtain ⟨g, ρ, F, r, w⟩ := h
  intro p hp
  have r0 := r.laid (o := .dK []) hp
  have a0 : Asd os g ρ σ (upd H p (.dK [])) F p (.dK []) := Asd.new r hp trivial
  refine ⟨g.at os ρ σ _ F, ρ, F, r0.rebase, ?_⟩
  unfold eStar at w
  cases q1 : fx ρ with
  | exc x => rw [q1] at w; exact w.elim
  | bad => rw [q1] at w; exact w.elim
  | ok pr =>
  obtain ⟨dx, ρ1⟩ := pr
  rw [q1] at w
  intro y H1 F1 k1 le1 hy
  have r1 := r0.unbase k1
  have a1 := a0.step r0 k1
  refine ⟨a1.h, ?_⟩
  cases dx with
  | dic t kvs =>
    cases t with
    | true => exact w.elim
    | false =>
      obtain ⟨a, ey, hh⟩ := hy
      rcases hh with ⟨_, l, e1, e2⟩ | ⟨z, _⟩
      · have w' : WG K E os g σ F (rO K os) Q (if kvs.length < sizeLine then (match fk ρ1 with
          | .ok (k, ρ2) => (match fv ρ2 with
            | .ok (v, ρ3) => (match asKey k with
              | some _ => .ok (.dic false (putD kvs k v), ρ3)
              | none => .bad)
            | _ => .bad)
          | _ => .bad) else .bad) := w
        clear w
        by_cases hz : kvs.length < sizeLine
        · rw [if_pos hz] at w'
          have el := e2.length
          have hpa : p ≠ a := fun z => by
            subst z
            rw [a1.f] at e1
            cases e1
          · refine ⟨a, l, ey, hpa, (r1.sub a _ e1).rd, by rw [el]; exact hz, fun q hq => ?_⟩
            have r2 : R K g os ρ1 σ (upd H1 p (.dK l)) F1 := a1.r r1
            have a2 : Asd os g ρ1 σ (upd H1 p (.dK l)) F1 p (.dK l) := a1.same trivial
            have r3 := r2.laid (o := .dK []) hq
            have a3 := a2.laid (o' := .dK []) hq
            have b3 : Asd os g ρ1 σ (upd (upd H1 p (.dK l)) q (.dK [])) F1 q (.dK []) := Asd.new r2 hq trivial
            refine ⟨g.at os ρ1 σ _ F1, ρ1, F1, r3.rebase, ?_⟩
            cases q2 : fk ρ1 with
            | exc x => rw [q2] at w'; exact w'.elim
            | bad => rw [q2] at w'; exact w'.elim
            | ok pr =>
            obtain ⟨dk, ρ2⟩ := pr
            rw [q2] at w'
            intro yk H2 F2 k2 le2 hk
            have r4 := r3.unbase k2
            have a4 := a3.step r3 k2
            have b4 := b3.step r3 k2
            refine ⟨g.at os ρ2 σ _ F2, ρ2, F2, r4.rebase, ?_⟩
            dsimp only at w'
            cases q3 : fv ρ2 with
            | exc x => rw [q3] at w'; exact w'.elim
            | bad => rw [q3] at w'; exact w'.elim
            | ok pr =>
            obtain ⟨dv, ρ3⟩ := pr
            rw [q3] at w'
            intro yv H3 F3 k3 le3 hv
            have r5 := r4.unbase k3
            have a5 := a4.step r4 k3
            have b5 := b4.step r4 k3
            dsimp only at w'
            cases q4 : asKey dk with
            | none => rw [q4] at w'; exact w'.elim
            | some kk =>
            rw [q4] at w'
            have w2 : WG K E os g σ F (rO K os) Q (.ok (.dic false (putD kvs dk dv), ρ3)) := w'
            have nq : p ≠ q := fun z => by subst z; rw [upd_same] at hq; cases hq
            have r6 : R K g os ρ3 σ (upd H3 q (.dK [(kk, yv)])) F3 := b5.r r5
            have a6 := a5.other (o' := .dK [(kk, yv)]) nq
            have r7 : R K g os ρ3 σ (upd (upd H3 q (.dK [(kk, yv)])) p (.dK (putK l kk yv))) F3 := a6.r r6
            have a7 := a6.same (o' := .dK (putK l kk yv)) trivial
            have hk' := key_view q4 (Rep.view k2.sub hk)
            refine ⟨kk, hk', a5.h, b5.h, w2 _ _ F3 r7 (le1.trans (le2.trans le3)) ⟨p, rfl, a7.free (.inl ⟨rfl, _, upd_same, ?_⟩)⟩⟩
            rw [asKey_eq q4]
            exact (RepK.mono (le2.trans le3) _ _ e2).put hv
        · rw [if_neg hz] at w'; exact w'.elim
      · cases z
  | _ => exact w.elim
theorem do_upd (hx : PE X x (sD X.K E os fx)) (hk : PE X k (sD X.K E os fk)) (hv : PE X v (sD X.K E os fv)) : PE X (.Dict [none, some k] [x, v] pos) (sO X.K E os (eStar fx fk fv)) :=
  PE.weak (pe_upd hx hk hv) fun σ H Q h => upd_read h
end
end DL
namespace DL
open PySem PySem.Spec L2
open PySem.W (dataLt alike)
/-! ### x < y, lists, tuples, texts, numbers -/
def isNonP : PyData → Bool
  | .none => true
  | _ => false
theorem isNonP_ne {p : PyData} (h : isNonP p = false) : p ≠ .none := fun e => by subst e; cases h
def okP (p q : PyData) : Bool := alike p q && !isNonP p && decide (p.depth ≤ 40)
def ltP (f : PyData → PyData → Bool) (dx dy : D) : Res Bool := match toP dx, toP dy with
  | some p, some q => if okP p q = true then .ok (f p q) else .bad
  | _, _ => .bad
theorem ltP_nx (f : PyData → PyData → Bool) (x y : D) : Noex (ltP f x y) := fun e h => by
  unfold ltP at h
  split at h
  · split at h <;> cases h
  · cases h
def rLtP (K : Frag) (f : PyData → PyData → Bool) : R2 := fun x y H Q => ∃ p q, Dp K H x p ∧ Dp K H y q ∧ okP p q = true ∧ Q (.bl (f p q)) H
theorem ltP_ok {K : Frag} {os : List Bool} (f : PyData → PyData → Bool) : Op2B K os (rLtP K f) (ltP f) := by
  intro g ρ σ H F x y dx dy b Q hR vx vy e q
  unfold ltP at e
  split at e
  · rename_i p p' e1 e2
    split at e
    · rename_i hk
      cases e
      exact ⟨p, p', dp_view hR.sub e1 vx, dp_view hR.sub e2 vy, hk, q H F hR FLe.refl⟩
    · cases e
  · cases e
section
variable {X : Cx}
theorem okP_spec {p q : PyData} (h : okP p q = true) : alike p q = true ∧ p ≠ .none ∧ p.depth ≤ 40 := by
  unfold okP at h
  simp only [Bool.and_eq_true, Bool.not_eq_true', decide_eq_true_eq] at h
  exact ⟨h.1.1, isNonP_ne h.1.2, h.2⟩
theorem op_ltP (hu : X.A.units + 64 < cLine) : OpR X (compareOp .Lt) (rLtP X.K dataLt) := by
  intro pins s σ H x y v u Q I rx ry h
  obtain ⟨p, q, d1, d2, hk, z⟩ := h
  obtain ⟨k1, k2, k3⟩ := okP_spec hk
  obtain ⟨as, r1⟩ := Dp.reads I _ _ _ d1 rx
  obtain ⟨bs, r2⟩ := Dp.reads I _ _ _ d2 ry
  exact PySem.W.lt_data r1 r2 k1 k2 (by omega) ⟨.bl _, H, I, rfl, z⟩
theorem op_gtP (hu : X.A.units + 64 < cLine) : OpR X (compareOp .Gt) (rLtP X.K fun p q => dataLt q p) := by
  intro pins s σ H x y v u Q I rx ry h
  obtain ⟨p, q, d1, d2, hk, z⟩ := h
  obtain ⟨k1, k2, k3⟩ := okP_spec hk
  obtain ⟨as, r1⟩ := Dp.reads I _ _ _ d1 rx
  obtain ⟨bs, r2⟩ := Dp.reads I _ _ _ d2 ry
  exact PySem.W.gt_data r1 r2 k1 k2 (by omega) ⟨.bl _, H, I, rfl, z⟩
theorem op_leP (hu : X.A.units + 64 < cLine) : OpR X (compareOp .LtE) (rLtP X.K fun p q => !dataLt q p) := by
  intro pins s σ H x y v u Q I rx ry h
  obtain ⟨p, q, d1, d2, hk, z⟩ := h
  obtain ⟨k1, k2, k3⟩ := okP_spec hk
  obtain ⟨as, r1⟩ := Dp.reads I _ _ _ d1 rx
  obtain ⟨bs, r2⟩ := Dp.reads I _ _ _ d2 ry
  exact PySem.W.le_data r1 r2 k1 k2 (by omega) ⟨.bl _, H, I, rfl, z⟩
theorem op_geP (hu : X.A.units + 64 < cLine) : OpR X (compareOp .GtE) (rLtP X.K fun p q => !dataLt p q) := by
  intro pins s σ H x y v u Q I rx ry h
  obtain ⟨p, q, d1, d2, hk, z⟩ := h
  obtain ⟨k1, k2, k3⟩ := okP_spec hk
  obtain ⟨as, r1⟩ := Dp.reads I _ _ _ d1 rx
  obtain ⟨bs, r2⟩ := Dp.reads I _ _ _ d2 ry
  exact PySem.W.ge_data r1 r2 k1 k2 (by omega) ⟨.bl _, H, I, rfl, z⟩
end
end DL
/-! DL23a: a table of sixteen slots takes three hashes. -/
namespace DL
open PySem PySem.Spec L2
set_option autoImplicit false
section
variable {owner : Array (Option Nat)} {ps : List Nat}
/-- the slots of owner that are taken are among ps -/
def Tkn (owner : Array (Option Nat)) (ps : List Nat) : Prop := owner.size = 16 ∧ ∀ j, j < 16 → owner.getD j none ≠ none → j ∈ ps
theorem getD_some0 {j : Nat} (hs : owner.size = 16) (hj : j < 16) : owner.getD j (some 0) = owner.getD j none := by
  have : j < owner.size := by omega
  simp [Array.getD, this]
theorem isNone_lt {j : Nat} (hs : owner.size = 16) (h : (owner.getD j (some 0)).isNone = true) : j < 16 := by
  rcases Nat.lt_or_ge j 16 with c | c
  · exact c
  · have : ¬ j < owner.size := by omega
    simp [Array.getD, this] at h
theorem free_find (x : Tkn owner ps) {i p : Nat} {f : Nat} {k : Nat} (h : (List.range (SetTable.runEnd 15 i + 1 - i)).find? (fun k => (owner.getD (i + k) (some 0)).isNone) = some k) :
    ∃ j, SetTable.layClean.free 15 owner (f + 1) i p = some j ∧ j < 16 ∧ owner.getD j none = none := by
  refine ⟨i + k, ?_, ?_⟩
  · show (match (List.range (SetTable.runEnd 15 i + 1 - i)).find? (fun k => (owner.getD (i + k) (some 0)).isNone) with
      | some k => some (i + k)
      | none => SetTable.layClean.free 15 owner f (SetTable.leap 15 i p).1 (SetTable.leap 15 i p).2) = some (i + k)
    rw [h]
  · have h1 := List.find?_some h
    have h2 := isNone_lt x.1 h1
    refine ⟨h2, ?_⟩
    rw [getD_some0 x.1 h2] at h1
    exact Option.isNone_iff_eq_none.mp h1
theorem free_low (x : Tkn owner ps) (hl : ps.length ≤ 3) {i p f : Nat} (hi : i ≤ 6) : ∃ j, SetTable.layClean.free 15 owner (f + 1) i p = some j ∧ j < 16 ∧ owner.getD j none = none := by
  have : ∃ k, k ≤ 3 ∧ i + k ∉ ps := by
    apply Classical.byContradiction
    intro hn
    have all : ∀ k, k ≤ 3 → i + k ∈ ps := fun k hk => Classical.byContradiction fun z => hn ⟨k, hk, z⟩
    have := nat_nodup_len [i, i + 1, i + 2, i + 3] ps (by simp <;> omega) fun y hy => by
      simp only [List.mem_cons, List.not_mem_nil, or_false] at hy
      rcases hy with e | e | e | e <;> subst e
      · exact all 0 (by omega)
      · exact all 1 (by omega)
      · exact all 2 (by omega)
      · exact all 3 (by omega)
    simp at this
    omega
  obtain ⟨k, hk, hn⟩ := this
  have e : SetTable.runEnd 15 i = i + 9 := if_pos (by omega)
  cases q : (List.range (SetTable.runEnd 15 i + 1 - i)).find? (fun k => (owner.getD (i + k) (some 0)).isNone) with
  | some k => exact free_find x q
  | none =>
    have := List.find?_eq_none.mp q k (by rw [e, List.mem_range]; omega)
    rw [getD_some0 x.1 (by omega)] at this
    cases z : owner.getD (i + k) none with
    | none => rw [z] at this; simp at this
    | some v => exact absurd (x.2 _ (by omega) (by rw [z]; simp)) hn
theorem free_high (x : Tkn owner ps) {i p f : Nat} (hi : 6 < i) (h16 : i < 16) (h : ∃ j, SetTable.layClean.free 15 owner f ((i * 5 + 1 + p / 32) % 16) (p / 32) = some j ∧ j < 16 ∧ owner.getD j none = none) :
    ∃ j, SetTable.layClean.free 15 owner (f + 1) i p = some j ∧ j < 16 ∧ owner.getD j none = none := by
  cases q : (List.range (SetTable.runEnd 15 i + 1 - i)).find? (fun k => (owner.getD (i + k) (some 0)).isNone) with
  | some k => exact free_find x q
  | none =>
    obtain ⟨j, h1, h2⟩ := h
    refine ⟨j, ?_, h2⟩
    show (match (List.range (SetTable.runEnd 15 i + 1 - i)).find? (fun k => (owner.getD (i + k) (some 0)).isNone) with
      | some k => some (i + k)
      | none => SetTable.layClean.free 15 owner f (SetTable.leap 15 i p).1 (SetTable.leap 15 i p).2) = some j
    rw [q]
    exact h1
/-- how many leaps lead into the low half -/
def stepsLow (i : Nat) : Nat := [0, 0, 0, 0, 0, 0, 0, 1, 4, 3, 1, 5, 2, 1, 2, 3].getD i 0
theorem stepsLow_ok : ((List.range 16).all fun i => (if stepsLow i = 0 then decide (i ≤ 6) else decide (stepsLow ((i * 5 + 1) % 16) + 1 = stepsLow i)) && decide (stepsLow i ≤ 5)) = true := by decide +kernel
theorem stepsLow_at {i : Nat} (hi : i < 16) : (stepsLow i = 0 → i ≤ 6) ∧ (stepsLow i ≠ 0 → stepsLow ((i * 5 + 1) % 16) + 1 = stepsLow i) ∧ stepsLow i ≤ 5 := by
  have := List.all_eq_true.mp stepsLow_ok i (List.mem_range.mpr hi)
  simp only [Bool.and_eq_true, decide_eq_true_eq] at this
  obtain ⟨h1, h2⟩ := this
  refine ⟨fun z => ?_, fun z => ?_, h2⟩
  · rw [if_pos z] at h1; exact of_decide_eq_true h1
  · rw [if_neg z] at h1; exact of_decide_eq_true h1
theorem free_zero (x : Tkn owner ps) (hl : ps.length ≤ 3) : ∀ (n i f : Nat), i < 16 → stepsLow i ≤ n → ∃ j, SetTable.layClean.free 15 owner (f + n + 1) i 0 = some j ∧ j < 16 ∧ owner.getD j none = none
  | 0, i, f, hi, hs => free_low x hl ((stepsLow_at hi).1 (Nat.le_zero.mp hs))
  | n + 1, i, f, hi, hs => by
    by_cases c : i ≤ 6
    · exact free_low x hl c
    · refine free_high x (Nat.not_le.mp c) hi ?_
      have h2 := (stepsLow_at hi).2.1
      by_cases z : stepsLow i = 0
      · exact absurd ((stepsLow_at hi).1 z) c
      · have := h2 z
        exact free_zero x hl n _ f (Nat.mod_lt _ (by decide)) (by simp only [Nat.zero_div, Nat.add_zero]; omega)
theorem free_any (x : Tkn owner ps) (hl : ps.length ≤ 3) : ∀ (m i p f : Nat), i < 16 → p < 32 ^ m → ∃ j, SetTable.layClean.free 15 owner (f + m + 6) i p = some j ∧ j < 16 ∧ owner.getD j none = none
  | 0, i, p, f, hi, hp => by
    have : p = 0 := by simp at hp; exact hp
    subst this
    exact free_zero x hl 5 i f hi (stepsLow_at hi).2.2
  | m + 1, i, p, f, hi, hp => by
    by_cases c : i ≤ 6
    · exact free_low (f := f + m + 1 + 5) x hl c
    · refine free_high (f := f + m + 6) x (Nat.not_le.mp c) hi (free_any x hl m _ _ f (Nat.mod_lt _ (by decide)) ?_)
      rw [Nat.pow_succ] at hp
      omega
end
/-- one slot more is filled -/
theorem fm_put (g g' : Nat → Option Nat) (j k : Nat) (h1 : g j = none) (h2 : g' j = some k) (h3 : ∀ i, i ≠ j → g' i = g i) : ∀ n, ((List.range n).filterMap g').Perm (if j < n then k :: (List.range n).filterMap g else (List.range n).filterMap g)
  | 0 => by simp
  | n + 1 => by
    have ih := fm_put g g' j k h1 h2 h3 n
    rw [List.range_succ, List.filterMap_append, List.filterMap_append]
    by_cases c : j < n
    · rw [if_pos c] at ih
      rw [if_pos (by omega)]
      have e : [n].filterMap g' = [n].filterMap g := by
        have := h3 n (by omega)
        simp only [List.filterMap_cons, List.filterMap_nil, this]
      rw [e]
      exact ih.append_right _
    · rw [if_neg c] at ih
      by_cases d : j = n
      · subst d
        rw [if_pos (by omega)]
        have e1 : [j].filterMap g' = [k] := by simp [h2]
        have e2 : [j].filterMap g = [] := by simp [h1]
        rw [e1, e2, List.append_nil]
        exact (ih.append_right _).trans (List.perm_append_singleton _ _)
      · rw [if_neg (by omega)]
        have e : [n].filterMap g' = [n].filterMap g := by
          have := h3 n (by omega)
          simp only [List.filterMap_cons, List.filterMap_nil, this]
        rw [e]
        exact ih.append_right _
abbrev slotsV (owner : Array (Option Nat)) : List Nat := (List.range 16).filterMap fun j => owner.getD j none
theorem slots_put {owner : Array (Option Nat)} {j k : Nat} (hs : owner.size = 16) (hj : j < 16) (hn : owner.getD j none = none) : (slotsV (owner.setIfInBounds j (some k))).Perm (k :: slotsV owner) := by
  have hjs : j < owner.size := by omega
  have := fm_put (fun i => owner.getD i none) (fun i => (owner.setIfInBounds j (some k)).getD i none) j k hn (by simp [Array.getD, hjs]) (fun i hi => by
    show (owner.setIfInBounds j (some k)).getD i none = owner.getD i none
    by_cases c : i < owner.size
    · simp [Array.getD, c, Array.getElem_setIfInBounds, Ne.symm hi]
    · simp [Array.getD, c]) 16
  rw [if_pos hj] at this
  exact this
theorem tkn_put {owner : Array (Option Nat)} {ps : List Nat} {j k : Nat} (x : Tkn owner ps) (hj : j < 16) : Tkn (owner.setIfInBounds j (some k)) (j :: ps) := by
  refine ⟨by rw [Array.size_setIfInBounds]; exact x.1, fun i hi h => ?_⟩
  by_cases c : i = j
  · subst c; exact List.mem_cons_self
  · refine List.mem_cons_of_mem _ (x.2 i hi ?_)
    intro z
    apply h
    have hs : i < owner.size := by rw [x.1]; exact hi
    simp [Array.getD, hs, Array.getElem_setIfInBounds, Ne.symm c] at z ⊢
    exact z
theorem fold16 : ∀ (rest : List Int) (owner : Array (Option Nat)) (ps : List Nat) (k : Nat), Tkn owner ps → ps.length = k → k + rest.length ≤ 4 → (slotsV owner).Perm (List.range k) →
    ∃ owner', rest.foldl (stepF 15) (some (owner, k)) = some (owner', k + rest.length) ∧ (slotsV owner').Perm (List.range (k + rest.length))
  | [], owner, ps, k, x, e, _, hp => ⟨owner, rfl, hp⟩
  | h :: rest, owner, ps, k, x, e, hl, hp => by
    rw [List.length_cons] at hl ⊢
    obtain ⟨j, h1, h2, h3⟩ := free_any x (by omega) 13 (SetTable.bits h % 16) (SetTable.bits h) 11 (Nat.mod_lt _ (by decide)) (Nat.lt_of_lt_of_le (bits_lt h) (by decide))
    have e2 : stepF 15 (some (owner, k)) h = some (owner.setIfInBounds j (some k), k + 1) := stepF_some h1
    rw [List.foldl_cons, e2]
    have p2 : (slotsV (owner.setIfInBounds j (some k))).Perm (List.range (k + 1)) := by
      refine (slots_put x.1 h2 h3).trans ((List.Perm.cons k hp).trans ?_)
      rw [List.range_succ]
      exact (List.perm_append_singleton _ _).symm
    have := fold16 rest _ (j :: ps) (k + 1) (tkn_put x h2) (by rw [List.length_cons, e]) (by omega) p2
    rw [show k + (rest.length + 1) = k + 1 + rest.length by omega]
    exact this
/-- laid anew in sixteen slots -/
theorem laid16 (finger moves : Nat) (led plain : Bool) {hs : Array Int} (hl : hs.size ≤ 4) : ∃ t' order, SetTable.laid 15 finger moves led plain hs = some (t', order) ∧ order.toList.Perm (List.range hs.size) ∧ t'.mask = 15 ∧ t'.led = led ∧ t'.dummies = #[] ∧ t'.place.size = order.size := by
  have x0 : Tkn (Array.replicate 16 none) [] := ⟨by simp, fun j hj h => by simp [Array.getD, hj] at h⟩
  obtain ⟨owner, e1, e2⟩ := fold16 hs.toList (Array.replicate 16 none) [] 0 x0 rfl (by rw [Array.length_toList]; omega) (by
    have : slotsV (Array.replicate 16 none) = [] := by decide +kernel
    rw [this]
    exact .rfl)
  have e3 : SetTable.layClean 15 hs = some owner := by rw [layClean_eq, e1]; rfl
  unfold SetTable.laid
  rw [e3]
  refine ⟨_, _, rfl, ?_, rfl, rfl, rfl, by simp⟩
  have : ((List.range (15 + 1)).filterMap fun j => (owner.getD j none).map (j, ·)).map (·.2) = slotsV owner := by
    rw [List.map_filterMap]
    congr 1
    funext j
    cases owner.getD j none <;> rfl
  rw [Nat.zero_add, Array.length_toList] at e2
  rw [List.toList_toArray] <;> try skip
  show (((List.range (15 + 1)).filterMap fun j => (owner.getD j none).map (j, ·)).map (·.2)).Perm _
  rw [this]
  exact e2
end DL
/-! DL23: sets of keys that can be walked: set(dict), a | b, sorted(set). -/
namespace DL
open PySem PySem.Spec L2
set_option autoImplicit false
def kOf : Value → Key
  | .int i _ => .inl i
  | .str x _ => .inr x
  | _ => .inl 0
theorem kOf_is {k : Key} {v : Value} (h : keyIs k v = true) : kOf v = k := by
  rcases keyIs_shape h with ⟨i, t, e1, e2⟩ | ⟨x, t, e1, e2⟩ <;> subst e1 <;> subst e2 <;> rfl
def addK (ks : List Key) (k : Key) : List Key := if (ks.any fun j => decide (j = k)) = true then ks else k :: ks
theorem addK_old {ks : List Key} {k : Key} (h : k ∈ ks) : addK ks k = ks := if_pos (List.any_eq_true.mpr ⟨k, h, decide_eq_true rfl⟩)
theorem addK_new {ks : List Key} {k : Key} (h : k ∉ ks) : addK ks k = k :: ks := if_neg fun z => by
  obtain ⟨j, hj, e⟩ := List.any_eq_true.mp z
  exact h (of_decide_eq_true e ▸ hj)
theorem mem_addK {ks : List Key} {k j : Key} : j ∈ addK ks k ↔ j ∈ ks ∨ j = k := by
  by_cases h : k ∈ ks
  · rw [addK_old h]
    exact ⟨.inl, fun z => z.elim id fun e => e ▸ h⟩
  · rw [addK_new h, List.mem_cons]
    exact Or.comm
theorem addK_len (ks : List Key) (k : Key) : (addK ks k).length ≤ ks.length + 1 := by
  unfold addK
  split <;> simp
theorem foldK_len : ∀ (l ks : List Key), (l.foldl addK ks).length ≤ ks.length + l.length
  | [], ks => Nat.le_refl _
  | k :: l, ks => by
    have h1 := foldK_len l (addK ks k)
    have h2 := addK_len ks k
    rw [List.foldl_cons, List.length_cons]
    omega
section
variable (P : Program) (w : World)
/-- an entry as it should be -/
def GoodK (e : Int × Value) : Prop := keyIs (kOf e.2) e.2 = true ∧ e.1 = (mixKind P w).hash (kOf e.2)
abbrev keysOf (es : Array (Int × Value)) : List Key := es.toList.map fun e => kOf e.2
/-- the payload of a set that can be walked, its keys ks in some order -/
structure PayK (es : Array (Int × Value)) (t : SetTable) (ks : List Key) : Prop where
  good : ∀ e ∈ es.toList, GoodK P w e
  nd : ks.Nodup
  pm : (keysOf es).Perm ks
  lt : es.size < scanBound
  fit : t.fits es.size = true
  ris : Ris t.place.toList
  led : w.params.followText "set-order" = true ∨ t.led = true
/-- the set of keys at a -/
def SetM (h : Heap) (a : Addr) (ks : List Key) : Prop := ∃ o es ep t, h.get? a = some o ∧ o.ExactSet ∧ o.data = .set es ep t ∧ PayK P w es t ks
end
section
variable {P : Program} {w : World} {h h' : Heap} {a : Addr} {ks ks' : List Key} {es es' : Array (Int × Value)} {t t' : SetTable}
theorem GoodK.elem {e : Int × Value} (g : GoodK P w e) : (∃ k, (mixKind P w).is k e.2 = true ∧ e.1 = (mixKind P w).hash k) ∧ e.2.scannable = true := by
  obtain ⟨g1, g2⟩ := g
  refine ⟨⟨_, g1, g2⟩, ?_⟩
  rcases keyIs_shape g1 with ⟨i, t, _, e1⟩ | ⟨x, t, _, e1⟩ <;> rw [e1] <;> rfl
theorem PayK.elems (p : PayK P w es t ks) : ElemsOf (mixKind P w) es.toList := fun e he => (p.good e he).elem
theorem PayK.len (p : PayK P w es t ks) : es.size = ks.length := by
  rw [← p.pm.length_eq, List.length_map, Array.length_toList]
theorem PayK.perm (p : PayK P w es t ks) (q : ks.Perm ks') : PayK P w es t ks' := ⟨p.good, q.nodup_iff.mp p.nd, p.pm.trans q, p.lt, p.fit, p.ris, p.led⟩
theorem PayK.moved (p : PayK P w es t ks) (q : es'.toList.Perm es.toList) (f : t'.fits es'.size = true) (r : Ris t'.place.toList) (l : t'.led = t.led) : PayK P w es' t' ks where
  good := fun e he => p.good e (q.mem_iff.mp he)
  nd := p.nd
  pm := (q.map _).trans p.pm
  lt := by rw [← Array.length_toList, q.length_eq, Array.length_toList]; exact p.lt
  fit := f
  ris := r
  led := p.led.imp id fun z => by rw [l]; exact z
theorem PayK.mem (p : PayK P w es t ks) (k : Key) : k ∈ ks ↔ ∃ e ∈ es.toList, (mixKind P w).is k e.2 = true := by
  rw [← p.pm.mem_iff, List.mem_map]
  constructor
  · rintro ⟨e, he, q⟩
    exact ⟨e, he, by rw [← q]; exact (p.good e he).1⟩
  · rintro ⟨e, he, q⟩
    exact ⟨e, he, kOf_is q⟩
theorem PayK.empty {t : SetTable} (f : t.fits 0 = true) (r : Ris t.place.toList) (l : w.params.followText "set-order" = true ∨ t.led = true) : PayK P w #[] t [] :=
  ⟨fun e he => by simp at he, List.nodup_nil, .rfl, by decide, f, r, l⟩
/-- one more -/
theorem PayK.more (p : PayK P w es t ks) {k : Key} {v : Value} (hk : keyIs k v = true) (hn : k ∉ ks) (hl : ks.length + 1 < scanBound) (q : es'.toList.Perm (es.push ((mixKind P w).hash k, v)).toList) (f : t'.fits es'.size = true) (r : Ris t'.place.toList) (l : t'.led = t.led) :
    PayK P w es' t' (k :: ks) := by
  rw [Array.toList_push] at q
  have q2 : es'.toList.Perm (((mixKind P w).hash k, v) :: es.toList) := q.trans (List.perm_append_singleton _ _)
  have ek := kOf_is hk
  refine ⟨fun e he => ?_, List.nodup_cons.mpr ⟨hn, p.nd⟩, ?_, ?_, f, r, p.led.imp id fun z => by rw [l]; exact z⟩
  · rcases List.mem_cons.mp (q2.mem_iff.mp he) with z | z
    · rw [z]
      show keyIs (kOf v) v = true ∧ _ = (mixKind P w).hash (kOf v)
      rw [ek]
      exact ⟨hk, rfl⟩
    · exact p.good e z
  · have := q2.map fun e => kOf e.2
    rw [List.map_cons] at this
    refine this.trans ?_
    show (kOf v :: _).Perm _
    rw [ek]
    exact List.Perm.cons _ p.pm
  · rw [← Array.length_toList, q2.length_eq, List.length_cons, Array.length_toList, p.len]; exact hl
theorem SetM.at (x : SetM P w h a ks) (k : ∀ o, h.get? a = some o → h'.get? a = some o) : SetM P w h' a ks := let ⟨o, es, ep, t, h1, r⟩ := x; ⟨o, es, ep, t, k o h1, r⟩
theorem SetM.perm (x : SetM P w h a ks) (q : ks.Perm ks') : SetM P w h a ks' := let ⟨o, es, ep, t, h1, h2, h3, r⟩ := x; ⟨o, es, ep, t, h1, h2, h3, r.perm q⟩
theorem SetM.lt (x : SetM P w h a ks) : a < h.objs.size := let ⟨_, _, _, _, h1, _⟩ := x; Heap.lt_size h1
theorem stored_set {o : Obj} {ep : Nat} (h1 : h.get? a = some o) (h3 : o.data = .set es ep t) (es' : Array (Int × Value)) (t' : SetTable) : (h.update a (Obj.putSet es' t')).get? a = some { o with data := .set es' (ep + 1) t' } := by
  have := Heap.get?_update_self (Obj.putSet es' t') h1 (by rw [putSet_of es' t' h3]; rfl)
  rw [putSet_of es' t' h3] at this
  exact this
end
section
variable {P : Program} {w : World} {A : Around} {E : Value → Shared → Prop} {s : Shared} {a : Addr} {ks : List Key}
/-- a set's payload is replaced -/
theorem store_pay {o : Obj} {es es' : Array (Int × Value)} {ep : Nat} {t t' : SetTable} {ks' : List Key} {Q : Unit → Shared → Prop} (h1 : s.heap.get? a = some o) (h2 : o.ExactSet) (h3 : o.data = .set es ep t) (p : PayK P w es' t' ks')
    (hQ : ∀ h' o', Heap.SameBut a s.heap h' → h'.get? a = some o' → o'.ExactSet → o'.data = .set es' (ep + 1) t' → Q () { s with heap := h' }) : wpAny (model P w) A (storeSet a es' t') Q E s :=
  wpAny_storeSet_of h1 h3 (hQ _ _ (Heap.SameBut.update ..) (stored_set h1 h3 es' t') h2 rfl) (fits_of_scanBound p.lt)
theorem SetM.store {h : Heap} {o : Obj} {es : Array (Int × Value)} {ep : Nat} {t : SetTable} (h1 : h.get? a = some o) (h2 : o.ExactSet) (h3 : o.data = .set es ep t) (p : PayK P w es t ks) : SetM P w h a ks := ⟨o, es, ep, t, h1, h2, h3, p⟩
theorem add_hashed {k : Key} {v : Value} {Q : Bool → Shared → Prop} (x : SetM P w s.heap a ks) (hk : keyIs k v = true) (hl : ks.length + 1 < scanBound)
    (hQ : ∀ b h', Heap.SameBut a s.heap h' → SetM P w h' a (addK ks k) → Q b { s with heap := h' }) : wpAny (model P w) A (setAddHashed a v ((mixKind P w).hash k)) Q E s := by
  obtain ⟨o, es, ep, t, h1, h2, h3, p⟩ := x
  have hs : v.scannable = true := by rcases keyIs_shape hk with ⟨i, t, _, e1⟩ | ⟨x, t, _, e1⟩ <;> rw [e1] <;> rfl
  unfold setAddHashed setAddHashedIn
  refine wpAny_holding (wpAny_bind (wpAny_setState_of h1 h3 p.fit ?_))
  dsimp only
  rw [byScan_of hs p.lt p.elems, if_pos rfl]
  unfold setAddByScan
  refine wpAny_bind (wpAny_bind (wpAny_rule (wpAny_bind (wpAny_setScan_of (knd := mixKind P w) (k := k) hk h1 h3 p.fit p.elems ?_))))
  cases q : es.toList.findIdx? fun e => (mixKind P w).is k e.2 with
  | some j =>
    obtain ⟨hj, pj, _⟩ := List.findIdx?_eq_some_iff_getElem.mp q
    have hm : k ∈ ks := (p.mem k).mpr ⟨_, List.getElem_mem hj, pj⟩
    have ea : addK ks k = ks := addK_old hm
    refine wpAny_pure (wpAny_pure ?_)
    exact hQ _ s.heap (Heap.SameBut.refl ..) (by rw [ea]; exact .store h1 h2 h3 p)
  | none =>
    have hn : k ∉ ks := fun z => by
      obtain ⟨e, he, z⟩ := (p.mem k).mp z
      have := List.findIdx?_eq_none_iff.mp q e he
      rw [z] at this
      cases this
    have ea : addK ks k = k :: ks := addK_new hn
    dsimp only
    have f0 := layNew_perm t es ((mixKind P w).hash k) v
    have f1 := layNew_fits t es ((mixKind P w).hash k) v
    have f2 := layNew_ris t es ((mixKind P w).hash k) v p.ris
    have f3 := layNew_led t es ((mixKind P w).hash k) v
    cases hL : layNew t es ((mixKind P w).hash k) v with
    | mk es1 r1 =>
    obtain ⟨t1, wd, gave⟩ := r1
    rw [hL] at f0 f1 f2 f3
    dsimp only at f0 f1 f2 f3 ⊢
    have quiet : ∀ (b : Bool) {s₁ : Shared} {Q' : Unit → Shared → Prop}, Q' () s₁ → wpAny (model P w) A (match b with | true => rule "set.scan.the-table-gave-way" | false => pure ()) Q' E s₁ := fun b s₁ Q' z => by
      cases b
      · exact wpAny_pure z
      · exact wpAny_rule z
    have tail : ∀ t2 : SetTable, t2.fits es1.size = true → Ris t2.place.toList → t2.led = t.led → wpAny (model P w) A (storeSet a es1 t2 >>= fun _ => if (!wd && t2.tooFull) = true then (match (relayAll t2 es1 (SetTable.grown es1.size)).2.2 with | true => rule "set.scan.the-table-gave-way" | false => pure ()) >>= fun _ => storeSet a (relayAll t2 es1 (SetTable.grown es1.size)).1 (relayAll t2 es1 (SetTable.grown es1.size)).2.1 >>= fun _ => pure (some true) else pure (some true))
        (fun r s' => wpAny (model P w) A (match r with | some added => pure added | none => setAddHashedIn a v ((mixKind P w).hash k) 99999) Q E s') E s := fun t2 g1 g2 g3 => by
      have p1 : PayK P w es1 t2 (k :: ks) := p.more hk hn hl f0 g1 g2 g3
      refine wpAny_bind (store_pay h1 h2 h3 p1 fun h' o' sb q1 q2 q3 => ?_)
      split
      · have r0 := relayAll_perm t2 es1 (SetTable.grown es1.size)
        have r1 := relayAll_fits t2 es1 (SetTable.grown es1.size)
        have r2 := relayAll_ris t2 es1 (SetTable.grown es1.size)
        have r3 := relayAll_led t2 es1 (SetTable.grown es1.size)
        have p2 := p1.moved r0 r1 r2 r3
        refine wpAny_bind (quiet _ ?_)
        refine wpAny_bind (store_pay q1 q2 q3 p2 fun h2 o2 sb2 z1 z2 z3 => wpAny_pure (wpAny_pure ?_))
        exact hQ _ h2 (sb.trans sb2) (by rw [ea]; exact .store z1 z2 z3 p2)
      · exact wpAny_pure (wpAny_pure (hQ _ h' sb (by rw [ea]; exact .store q1 q2 q3 p1)))
    refine wpAny_bind (quiet _ ?_)
    split
    · rw [hashByValue_scannable 8 hs]
      refine wpAny_bind (wpAny_pure ?_)
      refine tail _ ?_ ?_ ?_
      · split
        · exact f1
        · exact SetTable.fits_plain_off f1
      · split <;> exact f2
      · split <;> exact f3
    · refine wpAny_bind (wpAny_pure ?_)
      rw [if_pos rfl]
      exact tail t1 f1 f2 f3
/-- the new set's object -/
def newS (w : World) : Obj := { cls := .type "set", dict := none, data := .set #[] 0 (.fresh 0 0 (!w.params.followText "set-order")) }
theorem led_fresh : w.params.followText "set-order" = true ∨ (SetTable.fresh 0 0 (!w.params.followText "set-order")).led = true := by
  cases e : w.params.followText "set-order"
  · exact .inr rfl
  · exact .inl rfl
theorem pay_fresh : PayK P w #[] (SetTable.fresh 0 0 (!w.params.followText "set-order")) [] := .empty rfl .nil led_fresh
/-- set(x), by what its update does -/
theorem call_set_by {x : Addr} {Q : Value → Shared → Prop}
    (h : ∀ A', A'.handled = A.handled → wpAny (model P w) A' (Builtin.Frozenset.updateFrom "set.__init__" s.heap.objs.size (.ref x)) (fun _ s' => Q (.ref s.heap.objs.size) s') E { s with heap := s.heap.push (newS w) }) :
    wpAny (model P w) A (call (.type "set") [.ref x]) Q E s := by
  obtain ⟨c, tl, hmro⟩ := F.called_set.mro
  have m1 := F.called_set.made
  have m2 := F.called_set.sub
  have m3 := F.called_set.notType
  have m4 := F.called_set.canCreate
  have m5 := F.typeCall_set_1 (.ref x)
  refine wpAny_call (codeAny_of_tree ?_)
  show wpAny _ _ (callAny (.type "set") _) _ _ _
  refine wpAny_pure ⟨Code.quiet_builtin _ (by decide +kernel), codeAny_builtin F.entry_type_call ?_⟩
  rw [Around.under_plain (weight_type_call_type "set" [.ref x] []) rfl]
  repeat (any_goals (first | assumption | wp_step))
  refine codeAny_mono (code_set_led1 (.ref x) (E := E) (Q₁ := fun obj s₁ => obj = .ref s.heap.objs.size ∧ s₁ = { s with heap := s.heap.push (newS w) }) ⟨rfl, rfl⟩) fun r s₁ hr => ?_
  cases r with
  | error e => exact hr
  | ok fl =>
    cases fl with
    | ret obj =>
      obtain ⟨rfl, rfl⟩ := hr
      have g1 : (s.heap.push (newS w)).get? s.heap.objs.size = some (newS w) := Heap.get?_push_size _ rfl
      have g2 : Shared.TypeIs { s with heap := s.heap.push (newS w) } (.ref s.heap.objs.size) "set" := ⟨_, g1, rfl⟩
      have g3 := F.called_set.init.lookup
      have g4 := F.called_set.init.bind (.ref s.heap.objs.size)
      repeat (any_goals (first | assumption | wp_step))
      refine codeAny_mono (codeAny_call_builtin (R := wants (fun r s₂ => r = .none ∧ Q (.ref s.heap.objs.size) s₂) E) F.called_set.init.plain F.entry_set_init (check_set_init_1 g2 ?_)) fun r₂ s₂ hr₂ => ?_
      · unfold Builtin.«set.__init__» noKeywords
        have hh := h A.in1.in1 (by simp)
        generalize Builtin.Frozenset.updateFrom = U at hh ⊢
        wp_walk
        refine wpAny_mono hh (fun _ s' z => ?_) fun _ _ z => z
        show wpAny _ _ (ret Value.none) _ _ _
        exact wpAny_pure ⟨rfl, z⟩
      · cases r₂ with
        | error e => exact hr₂
        | ok fl₂ =>
          cases fl₂ with
          | ret r =>
            obtain ⟨rfl, hq⟩ := hr₂
            repeat (any_goals (first | assumption | wp_step))
          | _ => exact hr₂.elim
    | _ => exact hr.elim
theorem sub_dict_set' : isSubtype (.type "dict") (.type "set") = pure false := by rw [isSubtype_type]; kernel_rfl
theorem sub_dict_fz' : isSubtype (.type "dict") (.type "frozenset") = pure false := by rw [isSubtype_type]; kernel_rfl
/-- a small fresh set, filled from a dict's keys -/
theorem fill_dict {nm : String} {d S : Addr} {kvs : List (Key × Value)} {Q : Unit → Shared → Prop} (hS : s.heap.get? S = some (newS w)) (hd : s.heap.DictOf (mixKind P w) d kvs) (hm : (d == sysModules) = false) (ne : S ≠ d) (hl : kvs.length ≤ 4)
    (hQ : ∀ h', Heap.SameBut S s.heap h' → SetM P w h' S ((kvs.map (·.1)).foldl addK []) → Q () { s with heap := h' }) : wpAny (model P w) A (Builtin.Frozenset.updateFrom nm S (.ref d)) Q E s := by
  obtain ⟨o, es, ep, h1, h2, h3, h4, h5, h6⟩ := id hd
  have el : es.size = kvs.length := by rw [← h5.length, Array.length_toList]
  unfold Builtin.Frozenset.updateFrom Builtin.Frozenset.isAnySet
  refine wpAny_bind (wpAny_bind (wpAny_isInstance hd.typeIs F.sub_dict_set ?_))
  refine wpAny_isInstance hd.typeIs F.sub_dict_frozenset ?_
  rw [if_neg Bool.false_ne_true]
  refine wpAny_bind (wpAny_typeOf hd.typeIs ?_)
  rw [if_pos (by decide)]
  refine wpAny_bind (wpAny_rule ?_)
  refine wpAny_bind (wpAny_pure ?_)
  rw [hm, if_neg Bool.false_ne_true]
  refine wpAny_bind (wpAny_dictEpoch h1 h3 ?_)
  refine wpAny_bind (wpAny_dictEntries h1 h3 ?_)
  refine wpAny_bind ?_
  have room : wpAny (model P w) A (setRoomFor S es.size) (fun _ s' => s' = s) E s := by
    unfold setRoomFor
    refine wpAny_bind (wpAny_setState_of hS (show (newS w).data = _ from rfl) (by rfl) ?_)
    have e : (SetTable.fresh 0 0 (!w.params.followText "set-order")).roomFor es.size = none := by
      unfold SetTable.roomFor
      rw [if_neg]
      show ¬ (0 + es.size) * 5 ≥ 7 * 3
      omega
    dsimp only
    rw [e]
    exact wpAny_pure rfl
  refine wpAny_mono room (fun _ s' z => ?_) fun _ _ z => z
  subst z
  refine wpAny_bind (wpAny_dictEntries h1 h3 ?_)
  refine wpAny_bind ?_
  rw [Std.Legacy.Range.forIn_eq_forIn_range']
  simp only [Std.Legacy.Range.size, Nat.sub_zero, Nat.add_sub_cancel, Nat.div_one]
  refine wpAny_forIn_list _ (fun rest _ s'' => ∃ i h', rest = List.range' i (es.size - i) ∧ i ≤ es.size ∧ s'' = { s' with heap := h' } ∧ Heap.SameBut S s'.heap h' ∧ SetM P w h' S (((kvs.take i).map (·.1)).foldl addK []))
    _ ?_ ?_ _ _ ⟨0, s'.heap, by rw [Nat.sub_zero], Nat.zero_le _, rfl, Heap.SameBut.refl _ _, .store hS ⟨rfl, rfl, rfl⟩ rfl pay_fresh⟩
  · rintro x rest u s'' ⟨i, h', e1, e2, rfl, e3, e4⟩
    have lt : i < es.size := by
      rcases Nat.lt_or_ge i es.size with c | c
      · exact c
      · rw [Nat.sub_eq_zero_of_le c] at e1
        cases e1
    rw [show es.size - i = (es.size - (i + 1)) + 1 by omega, List.range'_succ] at e1
    injection e1 with e1 e6
    subst e1
    have hd' : h'.get? d = some o := (e3.2 d (Ne.symm ne)).trans h1
    refine wpAny_bind (wpAny_dictEntries hd' h3 ?_)
    rw [Array.getElem?_eq_getElem lt]
    dsimp only
    have lm : x < kvs.length := by rw [← el]; exact lt
    have hkv : kvs[x]? = some kvs[x] := List.getElem?_eq_getElem lm
    have hel : es.toList[x]? = some es[x] := by rw [Array.getElem?_toList]; exact Array.getElem?_eq_getElem lt
    obtain ⟨p1, p2⟩ := h5.get? hel hkv
    obtain ⟨k', p3, p4⟩ := h4 es[x] (Array.getElem_mem lt)
    cases (mixKind P w).inj _ _ _ p3 p1
    rw [p4]
    have hle : ((kvs.take x).map (·.1)).length ≤ 4 := by
      rw [List.length_map, List.length_take]
      omega
    have hf := foldK_len ((kvs.take x).map (·.1)) []
    refine wpAny_bind (wpAny_holding (add_hashed e4 p1 (by rw [List.length_nil] at hf; show _ < 4096; omega) fun b h'' sb q => ?_))
    refine wpAny_bind (wpAny_dictEpoch ((sb.2 d (Ne.symm ne)).trans hd') h3 ?_)
    rw [if_neg (by simp)]
    refine wpAny_pure ⟨x + 1, h'', e6, lt, rfl, e3.trans sb, ?_⟩
    rw [List.take_add_one, hkv, List.map_append, List.foldl_append]
    exact q
  · rintro u s'' ⟨i, h', e1, e2, rfl, e3, e4⟩
    have eq : i = es.size := by
      rcases Nat.lt_or_ge i es.size with c | c
      · rw [show es.size - i = (es.size - (i + 1)) + 1 by omega, List.range'_succ] at e1
        cases e1
      · exact Nat.le_antisymm e2 c
    rw [eq, el, List.take_length] at e4
    exact wpAny_pure (hQ h' e3 e4)
end
end DL
/-! DL24: a | b of small sets, sorted of a set. -/
namespace DL
open PySem PySem.Spec L2
set_option autoImplicit false
section
variable {P : Program} {w : World} {A : Around} {E : Value → Shared → Prop} {s : Shared} {a r o : Addr} {ks ks1 ks2 : List Key}
/-- a set's entries in some order -/
theorem walk_any {ob : Obj} {es : Array (Int × Value)} {ep : Nat} {t : SetTable} {Q : Array (Int × Value) → Shared → Prop} (h1 : s.heap.get? a = some ob) (h3 : ob.data = .set es ep t) (p : PayK P w es t ks)
    (hQ : ∀ es' d, es'.toList.Perm es.toList → Q es' { s with drawn := d }) : wpAny (model P w) A (setWalk a) Q E s := by
  unfold setWalk
  refine wpAny_bind (wpAny_setState_of h1 h3 p.fit ?_)
  dsimp only
  refine wpAny_bind (wpAny_byText ?_)
  cases hb : w.params.followText "set-order" with
  | true =>
    rw [if_pos rfl]
    exact wpAny_bind (wpAny_askSetting (wpAny_pure (hQ _ s.drawn (pick_perm _ _))))
  | false =>
    rw [if_neg Bool.false_ne_true]
    have hl : t.led = true := by
      rcases p.led with z | z
      · rw [hb] at z; cases z
      · exact z
    by_cases c : (!t.plain && decide (es.size > 1)) = true
    · refine wp_if_pos c ?_
      exact wpAny_bind (drawOrder_at _ _ _ _ (Nat.le_of_eq Array.length_toList) fun ys d q => wpAny_pure (hQ _ d (by rw [List.toList_toArray]; exact q)))
    · refine wp_if_neg c ?_
      refine wpAny_bind (wp_if_neg (c := (!t.led && decide (es.size > 1)) = true) (by rw [hl]; simp) (wpAny_pure ?_))
      exact wpAny_pure (hQ es s.drawn .rfl)
/-- no entry is an object -/
theorem quiet_sets : ∀ (l : List Addr) {Q : Bool → Shared → Prop}, (∀ b ∈ l, ∃ ks, SetM P w s.heap b ks) → Q true s → wpAny (model P w) A (setsQuiet l) Q E s := by
  intro l Q hl hq
  unfold setsQuiet
  refine wpAny_bind (wpAny_forIn_list _ (fun rest b s' => b = (none, ()) ∧ s' = s ∧ ∀ c ∈ rest, ∃ ks, SetM P w s.heap c ks) _ ?_ ?_ _ _ ⟨rfl, rfl, hl⟩)
  · rintro c rest b s' ⟨rfl, rfl, hc⟩
    obtain ⟨ks, ob, es, ep, t, h1, h2, h3, p⟩ := hc c List.mem_cons_self
    refine wpAny_bind (wpAny_setEntries_of h1 h3 p.fit ?_)
    refine wpAny_bind ?_
    rw [← Array.forIn_toList]
    refine wpAny_forIn_list _ (fun l b s2 => b = (none, ()) ∧ s2 = s' ∧ ∀ e ∈ l, e ∈ es.toList) _ ?_ ?_ _ _ ⟨rfl, rfl, fun e he => he⟩
    · rintro ⟨e1, e2⟩ l2 b2 s2 ⟨rfl, rfl, he⟩
      have g := (p.good _ (he _ List.mem_cons_self)).1
      rcases keyIs_shape g with ⟨i, t, _, e⟩ | ⟨x, t, _, e⟩
      · have e' : e2 = Value.int i t := e
        subst e'
        exact wpAny_pure ⟨rfl, rfl, fun e z => he e (List.mem_cons_of_mem _ z)⟩
      · have e' : e2 = Value.str x t := e
        subst e'
        exact wpAny_pure ⟨rfl, rfl, fun e z => he e (List.mem_cons_of_mem _ z)⟩
    · rintro b2 s2 ⟨rfl, rfl, _⟩
      exact wpAny_pure ⟨rfl, rfl, fun d hd => hc d (List.mem_cons_of_mem _ hd)⟩
  · rintro b s' ⟨rfl, rfl, _⟩
    exact wpAny_pure hq
theorem setM_state {ks : List Key} (x : SetM P w s.heap a ks) : ∃ ob es ep t, s.heap.get? a = some ob ∧ ob.ExactSet ∧ ob.data = .set es ep t ∧ PayK P w es t ks := x
/-- the entries of one set, to fill another -/
theorem walk_fill {Q : Array (Int × Value) → Shared → Prop} {ob : Obj} {es : Array (Int × Value)} {ep : Nat} {t : SetTable} (ne : r ≠ o) (h1 : s.heap.get? o = some ob) (h3 : ob.data = .set es ep t) (h2 : ob.ExactSet) (p : PayK P w es t ks2) (xr : SetM P w s.heap r ks1)
    (hQ : ∀ es' d h', es'.toList.Perm es.toList → Heap.SameBut r s.heap h' → SetM P w h' r ks1 → Q es' { s with heap := h', drawn := d }) : wpAny (model P w) A (setWalkUnseen o [r] (some r)) Q E s := by
  unfold setWalkUnseen
  refine wpAny_bind (wpAny_setState_of h1 h3 p.fit ?_)
  dsimp only
  refine wpAny_bind (wpAny_byText ?_)
  have by_walk : wpAny (model P w) A (setWalk o) Q E s := walk_any h1 h3 p fun es' d q => hQ es' d s.heap q (Heap.SameBut.refl _ _) xr
  split
  · exact by_walk
  · refine wpAny_bind (quiet_sets _ (fun b hb => ?_) ?_)
    · rcases List.mem_cons.mp hb with e | hb
      · subst e; exact ⟨ks2, ob, es, ep, t, h1, h2, h3, p⟩
      · rw [List.mem_singleton] at hb
        subst hb; exact ⟨ks1, xr⟩
    · rw [if_neg (by decide)]
      refine wpAny_bind (wpAny_rule ?_)
      obtain ⟨o2, es2, ep2, t2, g1, g2, g3, p2⟩ := id xr
      refine wpAny_bind (wpAny_setState_of g1 g3 p2.fit ?_)
      dsimp only
      split
      · rename_i c
        have pl : PayK P w es2 { t2 with led := t2.led && t.led, plain := t2.plain && t.plain } ks1 := ⟨p2.good, p2.nd, p2.pm, p2.lt, p2.fit, p2.ris, by
          rcases p.led with z | z
          · exact .inl z
          · rcases p2.led with z2 | z2
            · exact .inl z2
            · exact .inr (by show (t2.led && t.led) = true; rw [z, z2]; rfl)⟩
        refine wpAny_bind (store_pay g1 g2 g3 pl fun h' o' sb q1 q2 q3 => wpAny_pure ?_)
        exact hQ es s.drawn h' .rfl sb (.store q1 q2 q3 pl)
      · exact wpAny_pure (hQ es s.drawn s.heap .rfl (Heap.SameBut.refl _ _) xr)
/-- a set of eight slots, that nothing was taken from -/
def SetC (P : Program) (w : World) (h : Heap) (a : Addr) (ks : List Key) : Prop := ∃ o es ep t, h.get? a = some o ∧ o.ExactSet ∧ o.data = .set es ep t ∧ PayK P w es t ks ∧ t.mask = 7 ∧ t.dummies = #[]
theorem SetC.m {h : Heap} (x : SetC P w h a ks) : SetM P w h a ks := let ⟨o, es, ep, t, h1, h2, h3, p, _⟩ := x; ⟨o, es, ep, t, h1, h2, h3, p⟩
theorem fill_of {es : Array (Int × Value)} {t : SetTable} (p : PayK P w es t ks) (hd : t.dummies = #[]) : t.fill = ks.length := by
  have := p.fit
  unfold SetTable.fits at this
  rw [Bool.and_eq_true, beq_iff_eq] at this
  unfold SetTable.fill
  rw [this.1, hd, p.len]
  rfl
theorem room_none {ob : Obj} {es : Array (Int × Value)} {ep : Nat} {t : SetTable} {n : Nat} {Q : Unit → Shared → Prop} (h1 : s.heap.get? r = some ob) (h3 : ob.data = .set es ep t) (p : PayK P w es t ks) (hm : t.mask = 7) (hd : t.dummies = #[]) (hn : ks.length + n ≤ 4) (hQ : Q () s) : wpAny (model P w) A (setRoomFor r n) Q E s := by
  unfold setRoomFor
  refine wpAny_bind (wpAny_setState_of h1 h3 p.fit ?_)
  dsimp only
  have e : t.roomFor n = none := by
    unfold SetTable.roomFor
    rw [if_neg]
    rw [fill_of p hd, hm]
    omega
  rw [e]
  exact wpAny_pure hQ
theorem perm_of_order {α : Type} {es : Array α} {order : Array Nat} (h : order.toList.Perm (List.range es.size)) : (order.filterMap (es[·]?)).toList.Perm es.toList := by
  rw [Array.toList_filterMap]
  refine (h.filterMap _).trans ?_
  have : (List.range es.size).filterMap (fun i => es[i]?) = es.toList := by
    have := List.filterMap_getElem?_range_length es.toList
    rw [Array.length_toList] at this
    rw [← this]
    congr 1
    funext i
    rw [Array.getElem?_toList]
  rw [this]
/-- poured into an empty set -/
theorem merge_empty {each : Sem Unit} {Q : Unit → Shared → Prop} (ne : r ≠ o) (xr : SetC P w s.heap r []) (xo : SetM P w s.heap o ks) (hl : ks.length ≤ 4)
    (hQ : ∀ h', Heap.SameBut r s.heap h' → SetC P w h' r ks → Q () { s with heap := h' }) : wpAny (model P w) A (setMerge r o each) Q E s := by
  obtain ⟨or, er, epr, tr, r1, r2, r3, pr, rm, rd⟩ := id xr
  obtain ⟨oo, eo, epo, tt, o1, o2, o3, po⟩ := id xo
  unfold setMerge
  rw [if_neg (by simpa using ne)]
  refine wpAny_bind (wpAny_setState_of o1 o3 po.fit ?_)
  dsimp only
  split
  · rename_i c
    have e0 : eo = #[] := Array.isEmpty_iff.mp c
    have ek : ks = [] := by
      have := po.len
      rw [e0] at this
      exact List.length_eq_zero_iff.mp this.symm
    subst ek
    exact wpAny_pure (hQ s.heap (Heap.SameBut.refl _ _) xr)
  · refine wpAny_bind (room_none r1 r3 pr rm rd (by rw [po.len]; simpa using hl) ?_)
    refine wpAny_bind (wpAny_setState_of r1 r3 pr.fit ?_)
    dsimp only
    have fr : tr.fill = 0 := fill_of pr rd
    have ledA : w.params.followText "set-order" = true ∨ (tr.led && tt.led) = true := by
      rcases po.led with z | z
      · exact .inl z
      · rcases pr.led with z2 | z2
        · exact .inl z2
        · exact .inr (by rw [z, z2]; rfl)
    have e : tr.road tt = if tr.mask == tt.mask && tt.dummies.isEmpty then .slotForSlot else .clean := by
      unfold SetTable.road
      rw [fr]
      rfl
    rw [e]
    by_cases c : (tr.mask == tt.mask && tt.dummies.isEmpty) = true
    · rw [if_pos c]
      rw [Bool.and_eq_true, beq_iff_eq] at c
      have pl : PayK P w eo { tt with finger := tr.finger, led := tr.led && tt.led, moves := tr.moves, plain := tr.plain && tt.plain } ks := ⟨po.good, po.nd, po.pm, po.lt, po.fit, po.ris, ledA⟩
      refine store_pay r1 r2 r3 pl fun h' o' sb q1 q2 q3 => hQ h' sb ⟨o', _, _, _, q1, q2, q3, pl, ?_, Array.isEmpty_iff.mp c.2⟩
      show tt.mask = 7
      rw [← c.1, rm]
    · rw [if_neg c]
      obtain ⟨t0, ht0⟩ : ∃ t0 : SetTable, t0 = { tr with led := tr.led && tt.led, plain := tr.plain && tt.plain } := ⟨_, rfl⟩
      obtain ⟨t', order, q1, q2, q3, q4, q5, q6, q7⟩ := relaid_ok t0 (hs := eo.map (·.1)) (wanted := 0) (M := 7) (by decide +kernel) (.inl rfl) (by rw [Array.size_map, po.len]; omega)
      have q1' : SetTable.laid tr.mask tr.finger tr.moves (tr.led && tt.led) (tr.plain && tt.plain) (eo.map (·.1)) = some (t', order) := by
        rw [← q1, ht0]
        unfold SetTable.relaid
        have e1 : SetTable.sizeAbove 0 - 1 = 7 := by decide +kernel
        rw [e1, rm]
        rfl
      rw [q1']
      have pm : (order.filterMap (eo[·]?)).toList.Perm eo.toList := perm_of_order (by rw [Array.size_map] at q2; exact q2)
      have sz : (order.filterMap (eo[·]?)).size = eo.size := by rw [← Array.length_toList, pm.length_eq, Array.length_toList]
      refine wpAny_bind ?_
      show wpAny (model P w) A (ite (((order.filterMap (eo[·]?)).size != eo.size) = true) _ (pure (order.filterMap (eo[·]?), t'))) _ _ _
      refine wp_if_neg (by rw [sz]; simp) (wpAny_pure ?_)
      have fl := fill_of po
      have tf : t'.fits (order.filterMap (eo[·]?)).size = true := by
        unfold SetTable.fits SetTable.fill
        have hz := q3.sz
        rw [List.length_map, Array.length_toList] at hz
        have ho : order.size = eo.size := by
          have := q2.length_eq
          rw [List.length_range, Array.length_toList, Array.size_map] at this
          exact this
        rw [q7, q4, hz, sz, ho, po.len]
        simp
        omega
      have l5 : t'.led = (tr.led && tt.led) := by rw [q5, ht0]
      have pl : PayK P w (order.filterMap (eo[·]?)) t' ks := ⟨fun e he => po.good e (pm.mem_iff.mp he), po.nd, (pm.map _).trans po.pm, by rw [sz]; exact po.lt, tf, q3.ris, by rw [l5]; exact ledA⟩
      exact store_pay r1 r2 r3 pl fun h' o' sb z1 z2 z3 => hQ h' sb ⟨o', _, _, _, z1, z2, z3, pl, q4, q7⟩
/-- room for more, in a set of at most three -/
theorem room_more {n : Nat} {Q : Unit → Shared → Prop} (x : SetC P w s.heap r ks) (hl : ks.length ≤ 3) (hn : n ≤ 3) (hQ : ∀ h', Heap.SameBut r s.heap h' → SetM P w h' r ks → (ks.length + n ≤ 4 → h' = s.heap) → Q () { s with heap := h' }) : wpAny (model P w) A (setRoomFor r n) Q E s := by
  obtain ⟨or, er, epr, tr, r1, r2, r3, pr, rm, rd⟩ := id x
  by_cases c : ks.length + n ≤ 4
  · exact room_none r1 r3 pr rm rd c (hQ s.heap (Heap.SameBut.refl _ _) x.m fun _ => rfl)
  · unfold setRoomFor
    refine wpAny_bind (wpAny_setState_of r1 r3 pr.fit ?_)
    dsimp only
    have fr := fill_of pr rd
    have ps : tr.place.size = ks.length := by
      have := pr.fit
      unfold SetTable.fits at this
      rw [Bool.and_eq_true, beq_iff_eq] at this
      rw [this.1, pr.len]
    have e : tr.roomFor n = some ((ks.length + n) * 2) := by
      unfold SetTable.roomFor
      rw [if_pos (by rw [fr, rm]; omega), ps]
    rw [e]
    dsimp only
    have es : SetTable.sizeAbove ((ks.length + n) * 2) = 16 := by
      have h5 : ks.length + n = 5 ∨ ks.length + n = 6 := by omega
      rcases h5 with h5 | h5 <;> rw [h5] <;> decide +kernel
    obtain ⟨t', order, q1, q2, q4, q5, q7, q8⟩ := laid16 tr.finger (tr.movedTo 15) tr.led tr.plain (hs := er.map (·.1)) (by rw [Array.size_map, pr.len]; omega)
    have q1' : tr.relaid (er.map (·.1)) ((ks.length + n) * 2) = some (t', order) := by
      unfold SetTable.relaid
      rw [es]
      exact q1
    unfold setRelay
    refine wpAny_bind (wpAny_setState_of r1 r3 pr.fit ?_)
    dsimp only
    rw [es, if_neg (by rw [sizeLine_eq]; decide), q1']
    have pm : (order.filterMap (er[·]?)).toList.Perm er.toList := perm_of_order (by rw [Array.size_map] at q2; exact q2)
    have sz : (order.filterMap (er[·]?)).size = er.size := by rw [← Array.length_toList, pm.length_eq, Array.length_toList]
    refine wpAny_bind ?_
    show wpAny (model P w) A (ite (((order.filterMap (er[·]?)).size != er.size) = true) _ (pure (order.filterMap (er[·]?), t'))) _ _ _
    refine wp_if_neg (by rw [sz]; simp) (wpAny_pure ?_)
    have ho : order.size = er.size := by
      have := q2.length_eq
      rw [List.length_range, Array.length_toList, Array.size_map] at this
      exact this
    have tf : t'.fits (order.filterMap (er[·]?)).size = true := by
      unfold SetTable.fits SetTable.fill
      rw [q7, q4, q8, sz, ho, pr.len]
      simp
      omega
    have pl : PayK P w (order.filterMap (er[·]?)) t' ks := pr.moved pm tf (relaid_ris q1').1 q5
    exact store_pay r1 r2 r3 pl fun h' o' sb z1 z2 z3 => hQ h' sb (.store z1 z2 z3 pl) fun z => absurd z c
/-- two small sets become one -/
theorem merge_any {nm : String} {Q : Unit → Shared → Prop} (ne : r ≠ o) (xr : SetC P w s.heap r ks1) (xo : SetM P w s.heap o ks2) (hl1 : ks1.length ≤ 3) (hl2 : ks2.length ≤ 3)
    (hQ : ∀ h' d ks', Heap.SameBut r s.heap h' → SetM P w h' r ks' → (∀ k, k ∈ ks' ↔ k ∈ ks1 ∨ k ∈ ks2) → ks'.length ≤ 6 → Q () { s with heap := h', drawn := d }) : wpAny (model P w) A (Builtin.Frozenset.merge nm r o) Q E s := by
  obtain ⟨oo, eo, epo, tt, o1, o2, o3, po⟩ := id xo
  unfold Builtin.Frozenset.merge
  refine wpAny_bind (wpAny_setEpoch_of o1 o3 po.fit ?_)
  by_cases z : ks1 = []
  · subst z
    exact merge_empty ne xr xo (by omega) fun h' sb x => hQ h' s.drawn ks2 sb x.m (fun k => by simp) (by omega)
  · unfold setMerge
    rw [if_neg (by simpa using ne)]
    refine wpAny_bind (wpAny_setState_of o1 o3 po.fit ?_)
    dsimp only
    split
    · rename_i c
      have e0 : eo = #[] := Array.isEmpty_iff.mp c
      have ek : ks2 = [] := by
        have := po.len
        rw [e0] at this
        exact List.length_eq_zero_iff.mp this.symm
      subst ek
      exact wpAny_pure (hQ s.heap s.drawn ks1 (Heap.SameBut.refl _ _) xr.m (fun k => by simp) (by omega))
    · refine wpAny_bind (room_more xr hl1 (by rw [po.len]; exact hl2) fun h1 sb1 x1 _ => ?_)
      obtain ⟨or, er, epr, tr, r1, r2, r3, pr⟩ := id x1
      refine wpAny_bind (wpAny_setState_of r1 r3 pr.fit ?_)
      dsimp only
      have fr : tr.fill ≠ 0 := by
        have h1 := pr.fit
        unfold SetTable.fits at h1
        rw [Bool.and_eq_true, beq_iff_eq] at h1
        have h2 := pr.len
        have h3 : ks1.length ≠ 0 := fun z' => z (List.length_eq_zero_iff.mp z')
        unfold SetTable.fill
        omega
      have e : tr.road tt = .oneByOne := by
        unfold SetTable.road
        rw [if_pos (by simpa using fr)]
      rw [e]
      have o1' : h1.get? o = some oo := (sb1.2 o (Ne.symm ne)).trans o1
      refine wpAny_bind (walk_fill (s := { s with heap := h1 }) ne o1' o3 o2 po x1 fun es' d h2 pm sb2 x2 => ?_)
      refine wpAny_bind ?_
      rw [← Array.forIn_toList]
      have len' : es'.toList.length = ks2.length := by rw [pm.length_eq, Array.length_toList, po.len]
      refine wpAny_forIn_list _ (fun rest _ s' => ∃ (h' : Heap) (ks' : List Key) (t' : Nat), s' = { s with heap := h', drawn := d } ∧ Heap.SameBut r s.heap h' ∧ SetM P w h' r ks' ∧ ks'.length + rest.length ≤ 6 ∧ (∀ e ∈ rest, e ∈ es'.toList) ∧
        ∀ k, (k ∈ ks' ∨ k ∈ rest.map fun e => kOf e.2) ↔ (k ∈ ks1 ∨ k ∈ ks2)) _ ?_ ?_ _ _ ⟨h2, ks1, 0, rfl, sb1.trans sb2, x2, by omega, fun e he => he, fun k => ?_⟩
      · rintro ⟨hh, x⟩ rest u s' ⟨h', ks', t', rfl, q1, q2, q3, q4, q5⟩
        have g := po.good _ (pm.mem_iff.mp (q4 _ List.mem_cons_self))
        have g2 : hh = (mixKind P w).hash (kOf x) := g.2
        subst g2
        rw [List.length_cons] at q3
        refine wpAny_bind (wpAny_holding (add_hashed (k := kOf x) q2 g.1 (by show _ < 4096; omega) fun b h'' sb3 x3 => ?_))
        have o1'' : h''.get? o = some oo := (sb3.2 o (Ne.symm ne)).trans ((q1.2 o (Ne.symm ne)).trans o1)
        refine wpAny_bind ?_
        unfold Builtin.Frozenset.unchanged
        refine wpAny_bind (wpAny_setEpoch_of o1'' o3 po.fit ?_)
        refine wp_if_neg (by simp) (wpAny_pure ?_)
        refine wpAny_bind (wpAny_setState_of o1'' o3 po.fit ?_)
        refine wp_if_neg (by simp) (wpAny_pure ?_)
        have al := addK_len ks' (kOf x)
        refine ⟨h'', addK ks' (kOf x), 0, rfl, q1.trans sb3, x3, by omega, fun e he => q4 e (List.mem_cons_of_mem _ he), fun k => ?_⟩
        rw [← q5 k, mem_addK, List.map_cons, List.mem_cons]
        constructor
        · rintro ((a | a) | a)
          · exact .inl a
          · exact .inr (.inl a)
          · exact .inr (.inr a)
        · rintro (a | a | a)
          · exact .inl (.inl a)
          · exact .inl (.inr a)
          · exact .inr a
      · rintro u s' ⟨h', ks', t', rfl, q1, q2, q3, q4, q5⟩
        refine wpAny_pure (hQ h' d ks' q1 q2 (fun k => ?_) (by simpa using q3))
        rw [← q5 k]
        simp
      · have : k ∈ es'.toList.map (fun e => kOf e.2) ↔ k ∈ ks2 := by
          rw [((pm.map fun e => kOf e.2).trans po.pm).mem_iff]
        rw [this]
theorem entry_or : entryFor table "set.__or__" = some Builtin.«frozenset.__or__» := entryFor_alias (id' := "frozenset.__or__") (by kernel_rfl) rfl (by decide +kernel) (by kernel_rfl)
theorem SetC.typeIs {a : Addr} (x : SetC P w s.heap a ks) : s.TypeIs (.ref a) "set" := let ⟨o, _, _, _, h1, h2, _⟩ := x; ⟨o, h1, h2.1⟩
theorem SetM.typeIs {a : Addr} (x : SetM P w s.heap a ks) : s.TypeIs (.ref a) "set" := let ⟨o, _, _, _, h1, h2, _⟩ := x; ⟨o, h1, h2.1⟩
theorem any_set {a : Addr} {Q : Bool → Shared → Prop} (x : s.TypeIs (.ref a) "set") (hQ : Q true s) : wpAny (model P w) A (Builtin.Frozenset.isAnySet (.ref a)) Q E s := by
  unfold Builtin.Frozenset.isAnySet
  refine wpAny_bind (wpAny_isInstance x sub_set_self ?_)
  exact wpAny_pure hQ
/-- a | b -/
theorem or_sets {a b : Addr} {Q : Value → Shared → Prop} (xa : SetM P w s.heap a ks1) (xb : SetM P w s.heap b ks2) (hl1 : ks1.length ≤ 3) (hl2 : ks2.length ≤ 3)
    (hQ : ∀ h' d ks', (∀ b o, s.heap.get? b = some o → h'.get? b = some o) → SetM P w h' s.heap.objs.size ks' → (∀ k, k ∈ ks' ↔ k ∈ ks1 ∨ k ∈ ks2) → ks'.length ≤ 6 → Q (.ref s.heap.objs.size) { s with heap := h', drawn := d }) :
    wpAny (model P w) A (binaryOp .BitOr (.ref a) (.ref b)) Q E s := by
  refine wpAny_binaryOp_same xa.typeIs xb.typeIs F.fills_set_or F.slot_set_or ?_
  refine wpAny_call_entry F.slot_set_or xa.typeIs entry_or ?_ (F.args_set_or_2 _ _)
  show wpAny _ _ (Builtin.Frozenset.slot1 "__or__" ⟨[.ref a, .ref b], []⟩ >>= _) _ _ _
  unfold Builtin.Frozenset.slot1
  refine wpAny_bind (wpAny_bind (m := slotArgs "__or__" 1 ⟨[.ref a, .ref b], []⟩) (wpAny_pure (wpAny_pure ?_)))
  dsimp only
  rw [if_neg Bool.false_ne_true]
  dsimp only
  refine wpAny_bind (wpAny_bind (any_set xa.typeIs ?_))
  refine any_set xb.typeIs ?_
  rw [if_neg (by decide)]
  refine wpAny_bind (wpAny_pure ?_)
  refine wpAny_bind ?_
  show wpAny _ _ (Builtin.Frozenset.copyOf a >>= _) _ _ _
  unfold Builtin.Frozenset.copyOf Builtin.Frozenset.baseOf
  refine wpAny_bind (wpAny_bind (wpAny_bind (wpAny_isInstance xa.typeIs sub_set_self ?_)))
  refine wpAny_pure ?_
  rw [if_pos rfl]
  refine wpAny_bind ?_
  unfold newSet
  refine wpAny_bind (wpAny_byText ?_)
  refine wpAny_newObj_type ?_
  have lt1 : a < s.heap.objs.size := xa.lt
  have lt2 : b < s.heap.objs.size := xb.lt
  have k0 : ∀ c o, s.heap.get? c = some o → (s.heap.push (newS w)).get? c = some o := fun c o e => Heap.get?_push_of_some _ e
  have x0 : SetC P w (s.heap.push (newS w)) s.heap.objs.size [] := ⟨newS w, #[], 0, _, Heap.get?_push_size _ rfl, ⟨rfl, rfl, rfl⟩, rfl, pay_fresh, rfl, rfl⟩
  refine wpAny_bind (wpAny_pure ?_)
  refine wpAny_bind (merge_empty (s := { s with heap := s.heap.push (newS w) }) (r := s.heap.objs.size) (o := a) (Nat.ne_of_gt lt1) x0 (xa.at (k0 a)) (by omega) fun h1 sb1 x1 => ?_)
  refine wpAny_pure ?_
  have k1 : ∀ c o, s.heap.get? c = some o → h1.get? c = some o := fun c o e => (sb1.2 c (Nat.ne_of_lt (Heap.lt_size e))).trans (k0 c o e)
  have xb1 : SetM P w h1 b ks2 := xb.at (k1 b)
  by_cases c : b = a
  · subst c
    rw [if_neg (by simp)]
    refine wpAny_pure (wpAny_pure ⟨_, rfl, by simp, hQ h1 s.drawn ks1 k1 x1.m (fun k => ?_) (by omega)⟩)
    obtain ⟨o1, e1, _, t1, a1, a2, a3, a4⟩ := xa
    obtain ⟨o2, e2, _, t2, b1, b2, b3, b4⟩ := xb
    rw [a1] at b1
    cases b1
    rw [a3] at b3
    cases b3
    rw [← a4.pm.mem_iff, ← b4.pm.mem_iff]
    simp
  · rw [if_pos (by simpa using c)]
    refine wpAny_bind (wpAny_pure ?_)
    refine wpAny_bind (wpAny_holding ?_)
    unfold Builtin.Frozenset.updateFrom
    refine wpAny_bind (any_set xb1.typeIs ?_)
    rw [if_pos rfl]
    refine wpAny_bind (wpAny_pure ?_)
    refine merge_any (s := { s with heap := h1 }) (r := s.heap.objs.size) (o := b) (Nat.ne_of_gt lt2) x1 xb1 hl1 hl2 fun h2 d ks' sb2 x2 m2 l2 => wpAny_pure (wpAny_pure ⟨_, rfl, by simp, ?_⟩)
    exact hQ h2 d ks' (fun c o e => (sb2.2 c (Nat.ne_of_lt (Heap.lt_size e))).trans (k1 c o e)) x2 m2 l2
end
open PyProof.Rows
open PySem.W (EachIs dataLe AllAlike Sortable dataLt alike)
def strK : Key → Str
  | .inr x => x
  | .inl _ => Str.ofString ""
section
variable {P : Program} {w : World} {A : Around} {E : Value → Shared → Prop} {s : Shared} {a : Addr}
theorem each_strs : ∀ {vs : List Value} {xs : List Str}, EachIs (fun v x => ∃ t, v = Value.str x t) vs xs → Vals (xs.map V.str) vs
  | _, _, .nil => .nil
  | _, _, .cons ⟨t, e⟩ h => .cons ⟨t, e⟩ (each_strs h)
theorem strs_alike (xs : List Str) : AllAlike (xs.map PyData.str) := fun d hd d' hd' => by
  obtain ⟨x, _, rfl⟩ := List.mem_map.mp hd
  obtain ⟨y, _, rfl⟩ := List.mem_map.mp hd'
  rfl
theorem strs_sortable (xs : List Str) : Sortable (xs.map PyData.str) := .inr fun d hd => by
  obtain ⟨x, _, rfl⟩ := List.mem_map.mp hd
  exact ⟨(fun z => nomatch z), (fun _ z => nomatch z)⟩
/-- sorted(a), a set of texts -/
theorem sorted_setM {xs : List Str} {Q : Value → Shared → Prop} (x : SetM P w s.heap a (xs.map Sum.inr)) (hh : A.handled = none) (hu : A.units + 8 < cLine)
    (hQ : ∀ s' p (out : Array Value) (c : Nat) (ys : List Str), (∀ b o, s.heap.get? b = some o → s'.heap.get? b = some o) → s'.gens = s.gens → s'.os = s.os → s.heap.objs.size ≤ p → s'.heap.get? p = some (seqObj "list" out c) → Vals ((strSort ys).map V.str) out.toList → ys.Perm xs → Q (.ref p) s') :
    wpAny (model P w) A (call (.builtin "sorted") [.ref a]) Q E s := by
  obtain ⟨o, es, ep, t, h1, h2, h3, p⟩ := x
  refine Calls.call_function_entry kind_sorted plain_sorted entry_sorted (args_sorted1 _) ?_
  unfold Builtin.«sorted»
  refine wpAny_bind (m := checkCount "sorted" 1 1 _) (wpAny_pure ?_)
  refine wpAny_bind (collect_set (A := A.in1) hh ⟨o, h1, h2.1, h3⟩ p.fit p.lt p.ris p.led fun s1 vs k1 hz g1 o1 pm => ?_)
  have hvl : vs.length = xs.length := by rw [pm.length_eq, List.length_map, Array.length_toList, p.len, List.length_map]
  have hsm : xs.length < scanBound := by
    have := p.lt
    rw [p.len, List.length_map] at this
    exact this
  refine wpAny_bind (wpAny_newList ?_ (by rw [hvl, sizeLine_eq]; have : scanBound = 4096 := rfl; omega))
  have hoL : (s1.heap.push (seqObj "list" vs.toArray 0)).get? s1.heap.objs.size = some (seqObj "list" vs.toArray 0) := Heap.get?_push_size _ rfl
  have isS : ∀ v ∈ vs, ∃ x t, v = Value.str x t ∧ kOf v = .inr x := fun v hv => by
    obtain ⟨e, he, q⟩ := List.mem_map.mp (pm.mem_iff.mp hv)
    have hk : kOf e.2 ∈ xs.map Sum.inr := p.pm.mem_iff.mp (List.mem_map.mpr ⟨e, he, rfl⟩)
    obtain ⟨x, _, hx⟩ := List.mem_map.mp hk
    have g := (p.good e he).1
    rw [← hx] at g
    rcases keyIs_shape g with ⟨i, t, z, _⟩ | ⟨y, t, z, e'⟩
    · cases z
    · cases z
      exact ⟨x, t, by rw [← q, e'], by rw [← q]; exact hx.symm⟩
  have ee : ∀ l : List Value, (∀ v ∈ l, v ∈ vs) → EachIs (fun v x => ∃ t, v = Value.str x t) l (l.map fun v => strK (kOf v)) := fun l => by
    induction l with
    | nil => intro _; exact .nil
    | cons v l ih =>
      intro hl
      obtain ⟨x, t, e1, e2⟩ := isS v (hl v List.mem_cons_self)
      refine .cons ⟨t, ?_⟩ (ih fun y hy => hl y (List.mem_cons_of_mem _ hy))
      show v = Value.str (strK (kOf v)) t
      rw [e2]; exact e1
  have e0 := ee vs fun v hv => hv
  have py : (vs.map fun v => strK (kOf v)).Perm xs := by
    have q1 := pm.map fun v => strK (kOf v)
    rw [List.map_map] at q1
    have q2 := p.pm.map strK
    rw [List.map_map, List.map_map] at q2
    refine (q1.trans q2).trans ?_
    have : xs.map (strK ∘ Sum.inr) = xs := by
      rw [show (strK ∘ Sum.inr : Str → Str) = id from rfl, List.map_id]
    rw [this]
  refine wpAny_bind (wpAny_holding (PySem.W.list_sort_data (R := fun v x => ∃ t, v = Value.str x t) (bs := vs.map fun v => strK (kOf v)) (enc := PyData.str) hoL e0 (e0.mono fun v x h => ?_) (strs_alike _) (strs_sortable _) ?_ (fun b hb => ?_) fun out ho he => ?_))
  · obtain ⟨t, rfl⟩ := h
    exact ⟨[], .str _ _, by simp⟩
  · rw [List.length_map, hvl, sizeLine_eq]
    have : scanBound = 4096 := rfl
    omega
  · show A.in1.units + 1 + 0 < cLine
    have : A.in1.units = A.units + 1 := rfl
    omega
  · have de : (dataLe false PyData.str) = strLe := by
      funext x y
      show (!dataLt (.str y) (.str x)) = _
      rw [PySem.W.dataLt_str, PySem.W.not_lt_str]
      rfl
    rw [de] at he
    obtain ⟨c, hc⟩ := sortedHeap_at (vs := vs) (out := out.toArray) hoL
    refine wpAny_pure ⟨_, rfl, hQ _ s1.heap.objs.size out.toArray c _ (fun b u e => ?_) g1 o1 hz hc (each_strs he) py⟩
    have q := k1 b u e
    have hlt := Heap.lt_size q
    show (sortedHeap (s1.heap.push (seqObj "list" vs.toArray 0)) s1.heap.objs.size vs out.toArray).get? b = some u
    rw [sortedHeap_old (Nat.ne_of_lt hlt) (by rw [size_push']; exact Nat.lt_succ_of_lt hlt)]
    exact Heap.get?_push_of_some _ q
end
end DL
/-! DL25: sets as data that stand aside: set(d), a | b, sorted(s), len(s). -/
namespace DL
open PySem PySem.Spec L2
set_option autoImplicit false
/-- a set of keys, that is walked -/
def SetH (P : Program) (w : World) (a : Addr) (ks : List Key) : HO := .ext fun h => SetM P w h a ks
section
variable {X : Cx}
theorem setH_new {w : World} {P : Program} {H : Hp} {h : Heap} {a : Addr} {ks : List Key} (x : SetM P w h a ks) : ObjOk P w H h a (SetH P w a ks) := by
  have ⟨o, _, _, _, ho, _⟩ := x
  exact ⟨x, ⟨o, ho⟩, fun h1 h2 p k => SetM.at p k⟩
theorem setH_get {pins : List (Addr × Obj)} {σ : L2.St} {H : Hp} {s : Shared} {a : Addr} {ks : List Key} (I : Inv X pins σ H s) (ha : H a = some (SetH X.prog X.w a ks)) : SetM X.prog X.w s.heap a ks := (I.hok a _ ha).1
theorem foldK_nodup : ∀ (l ks : List Key), (l ++ ks).Nodup → (l.foldl addK ks).Perm (l ++ ks)
  | [], ks, _ => .rfl
  | k :: l, ks, h => by
    rw [List.cons_append, List.nodup_cons] at h
    obtain ⟨h1, h2⟩ := h
    have hk : k ∉ ks := fun z => h1 (List.mem_append_right _ z)
    rw [List.foldl_cons, addK_new hk]
    have h3 : (l ++ k :: ks).Nodup := (List.perm_middle.nodup_iff).mpr (List.nodup_cons.mpr ⟨h1, h2⟩)
    exact (foldK_nodup l (k :: ks) h3).trans List.perm_middle
/-- the rest of the state moved too -/
theorem inv_moved {pins : List (Addr × Obj)} {σ : L2.St} {H : Hp} {s s' : Shared} {p : Addr} {o : HO} (I : Inv X pins σ H s) (k : ∀ b u, s.heap.get? b = some u → s'.heap.get? b = some u) (g : s'.gens = s.gens) (os : s'.os = s.os) (hp : s.heap.objs.size ≤ p) (new : ObjOk X.prog X.w (upd H p o) s'.heap p o) : Inv X pins σ (upd H p o) s' := by
  have hn : H p = none := I.hok.fresh hp
  have J : Inv X pins σ (upd H p o) { s with heap := s'.heap, gens := s'.gens, drawn := s'.drawn, toks := s'.toks } :=
    I.call (ch := []) (Un.laid k hp hn) (I.hok.laid k hp new) (by rw [g]; exact I.bare) (fun _ z => nomatch z)
  have e : s' = { s with heap := s'.heap, gens := s'.gens, drawn := s'.drawn, toks := s'.toks } := by
    cases s'
    cases s
    cases os
    rfl
  rw [e]
  exact J
def rSetDM (P : Program) (w : World) : List V → Hp → VK → Prop := fun xs H Q => ∃ (a : Addr) (kvs : List (Key × V)), xs = [.ref a] ∧ Rd H a (.dK kvs) ∧ kvs.length ≤ 4 ∧ ∀ p, H p = none → (kvs.map (·.1)).Nodup → Q (.ref p) (upd H p (SetH P w p (kvs.map (·.1))))
theorem cr_setDM : CallR X (.type "set") (rSetDM X.prog X.w) := by
  intro pins s σ H xs us Q I r h
  obtain ⟨a, kvs, rfl, ha, hl, q⟩ := h
  rw [Vals.ref1 r]
  obtain ⟨z, hd, vs, rel, dd⟩ := dk_rd I.hok ha
  have lt : a < s.heap.objs.size := let ⟨o, _, _, ho, _⟩ := dd; Heap.lt_size ho
  have nd : (vs.map (·.1)).Nodup := let ⟨_, _, _, _, _, _, _, _, h6⟩ := dd; h6
  refine call_set_by fun A' hA => ?_
  refine fill_dict (s := { s with heap := s.heap.push (newS X.w) }) (kvs := vs) (Heap.get?_push_size _ rfl) (dd.at fun o e => Heap.get?_push_of_some _ e) hd (Nat.ne_of_gt lt) (by rw [← rel.length]; exact hl) fun h' sb x => ?_
  have k : ∀ b u, s.heap.get? b = some u → h'.get? b = some u := fun b u e => (sb.2 b (Nat.ne_of_lt (Heap.lt_size e))).trans (Heap.get?_push_of_some _ e)
  have x2 : SetM X.prog X.w h' s.heap.objs.size (kvs.map (·.1)) := by
    rw [rel.keys]
    have := foldK_nodup (vs.map (·.1)) [] (by rw [List.append_nil]; exact nd)
    rw [List.append_nil] at this
    exact x.perm this
  exact ⟨.ref _, _, inv_moved (s' := { s with heap := h' }) I k rfl rfl (Nat.le_refl _) (setH_new x2), rfl, q _ (I.hok.fresh (Nat.le_refl _)) (by rw [rel.keys]; exact nd)⟩
def orK (ks1 ks2 : List Key) : List Key := ks1 ++ ks2.filter fun k => !(ks1.any fun j => decide (j = k))
theorem mem_orK {ks1 ks2 : List Key} {k : Key} : k ∈ orK ks1 ks2 ↔ k ∈ ks1 ∨ k ∈ ks2 := by
  unfold orK
  rw [List.mem_append, List.mem_filter]
  by_cases h : k ∈ ks1
  · exact ⟨fun _ => .inl h, fun _ => .inl h⟩
  · have : (ks1.any fun j => decide (j = k)) = false := by
      rw [List.any_eq_false]
      intro j hj e
      exact h (of_decide_eq_true e ▸ hj)
    rw [this]
    simp
theorem orK_nodup {ks1 ks2 : List Key} (h1 : ks1.Nodup) (h2 : ks2.Nodup) : (orK ks1 ks2).Nodup := by
  unfold orK
  rw [List.nodup_append]
  refine ⟨h1, h2.filter _, fun a ha b hb e => ?_⟩
  subst e
  have := (List.mem_filter.mp hb).2
  rw [Bool.not_eq_true', List.any_eq_false] at this
  exact this a ha (decide_eq_true rfl)
theorem perm_of_mem {l m : List Key} (h1 : l.Nodup) (h2 : m.Nodup) (h : ∀ k, k ∈ l ↔ k ∈ m) : l.Perm m := (List.perm_ext_iff_of_nodup h1 h2).mpr h
def rOrM (P : Program) (w : World) : R2 := fun x y H Q => ∃ (a b : Addr) (ks1 ks2 : List Key), x = .ref a ∧ y = .ref b ∧ H a = some (SetH P w a ks1) ∧ H b = some (SetH P w b ks2) ∧ ks1.length ≤ 3 ∧ ks2.length ≤ 3 ∧
  ∀ p, H p = none → Q (.ref p) (upd H p (SetH P w p (orK ks1 ks2)))
theorem SetM.nd {P : Program} {w : World} {h : Heap} {a : Addr} {ks : List Key} (x : SetM P w h a ks) : ks.Nodup := let ⟨_, _, _, _, _, _, _, p⟩ := x; p.nd
theorem or_setM : OpR X (binaryOp .BitOr) (rOrM X.prog X.w) := by
  intro pins s σ H x y v u Q I rx ry h
  obtain ⟨a, b, ks1, ks2, rfl, rfl, ha, hb, l1, l2, q⟩ := h
  cases rx
  cases ry
  have xa := setH_get I ha
  have xb := setH_get I hb
  refine or_sets xa xb l1 l2 fun h' d ks' k x hm _ => ?_
  have x2 : SetM X.prog X.w h' s.heap.objs.size (orK ks1 ks2) := x.perm (perm_of_mem x.nd (orK_nodup xa.nd xb.nd) fun k => (hm k).trans mem_orK.symm)
  exact ⟨.ref _, _, inv_moved (s' := { s with heap := h', drawn := d }) I k rfl rfl (Nat.le_refl _) (setH_new x2), rfl, q _ (I.hok.fresh (Nat.le_refl _))⟩
def rSortM (P : Program) (w : World) : List V → Hp → VK → Prop := fun vs H Q => ∃ (a : Addr) (xs : List Str), vs = [V.ref a] ∧ H a = some (SetH P w a (xs.map Sum.inr)) ∧ ∀ p, H p = none → Q (.ref p) (upd H p (.lst ((strSort xs).map V.str)))
theorem cr_sortM (hc : X.calm = true) (hu : X.A.units + 64 < cLine) : CallR X (.builtin "sorted") (rSortM X.prog X.w) := by
  intro pins s σ H vs us Q I r h
  obtain ⟨a, xs, rfl, ha, q⟩ := h
  rw [Vals.ref1 r]
  have x := setH_get I ha
  have len : xs.length < 4096 := by
    obtain ⟨_, _, _, _, _, _, _, p⟩ := x
    have := p.lt
    rw [p.len, List.length_map] at this
    exact this
  refine sorted_setM x (I.ok.hd hc) (by omega) fun s' p out c ys k g os hp ho rv pm => ?_
  have e : strSort ys = strSort xs := strSort_congr pm
  rw [e] at rv
  have new : ObjOk X.prog X.w (upd H p (.lst ((strSort xs).map V.str))) s'.heap p (.lst ((strSort xs).map V.str)) := ⟨by rw [List.length_map, strSort_len, sizeLine_eq]; omega, out.toList, c, rv, ho⟩
  exact ⟨.ref p, _, inv_moved I k g os hp new, rfl, q p (I.hok.fresh hp)⟩
end
/-! ### as data -/
section
variable {K : Frag} {os : List Bool}
def rS (P : Program) (w : World) (os : List Bool) : Gh → Ev → L2.St → Hp → Hp → D → V → Prop := fun g ρ σ H F d v => ∃ a ks, v = .ref a ∧ d = .set (ks.map kD) ∧ ks.Nodup ∧ Asd os g ρ σ H F a (SetH P w a ks)
def setKD (d : D) : Res D := match d with
  | .dic false kvs => if kvs.length ≤ 4 then .ok (.set (kvs.map (·.1))) else .bad
  | _ => .bad
theorem setKD_nx (d : D) : Noex (setKD d) := fun e h => by
  unfold setKD at h
  split at h
  · split at h <;> cases h
  · cases h
theorem repK_keys {F : Hp} : ∀ {kvs : List (D × D)} {l : List (Key × V)}, RepK K F kvs l → kvs.map (·.1) = (l.map (·.1)).map kD
  | [], l, h => by cases (show l = [] from h); rfl
  | (k, d) :: r, l, h => by
    obtain ⟨k', v, r', e1, e2, _, h4⟩ := h
    subst e1
    rw [List.map_cons, List.map_cons, List.map_cons, repK_keys h4, e2]
theorem setKD_ok {P : Program} {w : World} : Op1 K os (fun v => rSetDM P w [v]) setKD (rS P w os) := by
  intro g ρ σ H F x dx d Q hR vx e q
  unfold setKD at e
  split at e
  · rename_i kvs
    split at e
    · rename_i hl
      cases e
      obtain ⟨a, ea, h⟩ := vx
      rcases h with ⟨_, l, ha, hk⟩ | ⟨z, _⟩
      · refine ⟨a, l, by rw [ea], ha, by rw [hk.length]; exact hl, fun p hp nd => ?_⟩
        exact q _ _ F (hR.laid hp) FLe.refl ⟨p, _, rfl, by rw [repK_keys hk], nd, Asd.new hR hp trivial⟩
      · cases z
    · cases e
  · cases e
def orD (xs ys : List D) : List D := xs ++ ys.filter fun k => !(xs.any fun j => kEq j k)
theorem orD_kD (a b : List Key) : orD (a.map kD) (b.map kD) = (orK a b).map kD := by
  unfold orD orK
  rw [List.map_append, List.filter_map]
  congr 2
  apply List.filter_congr
  intro k _
  show (!((a.map kD).any fun j => kEq j (kD k))) = _
  rw [List.any_map]
  congr 1
  apply List.any_congr rfl
  intro j
  exact kEq_kD j k
def eOrS (fa fb : EM D) : EM D := fun ρ => match fa ρ with
  | .ok (.set xs, ρ1) => (match fb ρ1 with
    | .ok (.set ys, ρ2) => if xs.length ≤ 3 ∧ ys.length ≤ 3 then .ok (.set (orD xs ys), ρ2) else .bad
    | _ => .bad)
  | _ => .bad
def sortS (d : D) : Res D := match d with
  | .set xs => (match strsOf xs with
    | some ns => .ok (.lst ((strSort ns).map .str))
    | none => .bad)
  | _ => .bad
theorem sortS_nx (d : D) : Noex (sortS d) := fun e h => by
  unfold sortS at h
  split at h
  · split at h <;> cases h
  · cases h
theorem strs_keys : ∀ {ks : List Key} {ns : List Str}, strsOf (ks.map kD) = some ns → ks = ns.map Sum.inr
  | [], ns, h => by cases h; rfl
  | k :: ks, ns, h => by
    cases k with
    | inl i => cases h
    | inr x =>
      have h' : (strsOf (ks.map kD)).map (x :: ·) = some ns := h
      obtain ⟨m, h1, h2⟩ := Option.map_eq_some_iff.mp h'
      subst h2
      rw [List.map_cons, strs_keys h1]
end
section
variable {X : Cx} {E : XK} {os : List Bool} {a b : Expr} {pos p : Pos} {x : Str} {fa fb : EM D}
theorem or_read {K : Frag} {P : Program} {w : World} {σ : L2.St} {H : Hp} {Q : VK} (h : tG K E os (rS P w os) (eOrS fa fb) σ H Q) : tOp (rOrM P w) (tG K E os (rS P w os) fa) (tG K E os (rS P w os) fb) σ H Q := by
  obtain ⟨g, ρ, F, r, wg⟩ := h
  refine ⟨g, ρ, F, r, ?_⟩
  unfold eOrS at wg
  cases q1 : fa ρ with
  | exc e => rw [q1] at wg; exact wg.elim
  | bad => rw [q1] at wg; exact wg.elim
  | ok pr =>
  obtain ⟨d1, ρ1⟩ := pr
  rw [q1] at wg
  intro v1 H1 F1 r1 le1 h1
  obtain ⟨a1, ks1, e1, e2, n1, s1⟩ := h1
  subst e1 e2
  dsimp only at wg
  refine ⟨g.at os ρ1 σ H1 F1, ρ1, F1, r1.rebase, ?_⟩
  cases q2 : fb ρ1 with
  | exc e => rw [q2] at wg; exact wg.elim
  | bad => rw [q2] at wg; exact wg.elim
  | ok pr =>
  obtain ⟨d2, ρ2⟩ := pr
  rw [q2] at wg
  intro v2 H2 F2 k2 le2 h2
  have r2 := r1.unbase k2
  have s1' := s1.step r1 k2
  obtain ⟨a2, ks2, e1, e2, n2, s2⟩ := h2
  subst e1 e2
  have w2 : WG K E os g σ F (rS P w os) Q (if (ks1.map kD).length ≤ 3 ∧ (ks2.map kD).length ≤ 3 then .ok (.set (orD (ks1.map kD) (ks2.map kD)), ρ2) else .bad) := wg
  by_cases c : (ks1.map kD).length ≤ 3 ∧ (ks2.map kD).length ≤ 3
  · rw [if_pos c] at w2
    refine ⟨a1, a2, ks1, ks2, rfl, rfl, s1'.h, s2.h, by simpa using c.1, by simpa using c.2, fun p hp => ?_⟩
    exact w2 _ _ F2 (r2.laid hp) (le1.trans le2) ⟨p, orK ks1 ks2, rfl, by rw [orD_kD], orK_nodup n1 n2, Asd.new r2 hp trivial⟩
  · rw [if_neg c] at w2
    exact w2.elim
theorem dS_or (ha : PE X a (tG X.K E os (rS X.prog X.w os) fa)) (hb : PE X b (tG X.K E os (rS X.prog X.w os) fb)) : PE X (.BinOp a .BitOr b pos) (tG X.K E os (rS X.prog X.w os) (eOrS fa fb)) := PE.weak (pe_op or_setM ha hb) fun σ H Q h => or_read h
theorem do_sortS (hs : ∀ {t : TA}, PA X [a] t → PE X (.Call (.Name x p) [a] [] pos) (tCB (rSortM X.prog X.w) t)) (ha : PE X a (tG X.K E os (rS X.prog X.w os) fa)) (he : starEach [a] X.env = (false, eval a X.env) :: starEach [] X.env := by rfl) :
    PE X (.Call (.Name x p) [a] [] pos) (sO X.K E os (e1 sortS fa)) := PE.weak (hs (pa_cons ha pa_nil he)) fun σ H Q ⟨g, ρ, F, hR, w⟩ => by
  refine tG.bind hR w fun dx v ρ1 H1 F1 hR1 le1 rx w1 => ?_
  obtain ⟨a1, ks, e1, e2, n1, s1⟩ := rx
  subst e1 e2
  obtain ⟨d, ed, w3⟩ := w1.lift2 (sortS_nx _)
  unfold sortS at ed
  dsimp only at ed
  split at ed
  · rename_i ns hns
    cases ed
    have ek := strs_keys hns
    subst ek
    exact ⟨a1, ns, rfl, s1.h, fun p hp => w3 _ _ F1 (hR1.laid hp) FLe.refl ⟨p, rfl, Free.new hR1 hp ⟨_, upd_same, reps_strs⟩⟩⟩
  · cases ed
end
end DL
/-! DL26: dict comprehensions over a dict's keys; name = {..}. -/
namespace DL
open PySem PySem.Spec L2
set_option autoImplicit false
def eDCompA (vs : List Nat) (i : Nat) (t : Tgt) (c : EM Bool) (ek e : EM D) : EM D := fun ρ => match ρ[i]? with
  | some (some (.dic _ _)) => eDComp vs (e1 gKeys (eVar i)) t c ek e ρ
  | _ => eDComp vs (e1 gItems (eVar i)) t c ek e ρ
theorem eDComp_nx {vs : List Nat} {f : EM (List D)} {t : Tgt} {c : EM Bool} {ek e : EM D} {ρ : Ev} : ∀ x, eDComp vs f t c ek e ρ ≠ .exc x := fun x h => by
  unfold eDComp at h
  split at h
  · split at h <;> cases h
  · cases h
section
variable {X : Cx} {E : XK} {os : List Bool} {tg kx vx : Expr} {ifs : List Expr} {pos npos : Pos} {x : Str}
/-- over the keys of the dict in slot i -/
theorem do_dcK {i : Nat} {scope : Scope} {own : List (Str × Nat)} {t : Tgt} {c : EM Bool} {ek e : EM D} {gt : TG} (hc : X.calm = true) (hN : X.N.Nodup) (hv0 : PE X (.Name x npos) (tVar i)) (ho : os[i]? = some false) (ok : BlkOk X.N X.env.scope scope own)
    (hg : ∀ (s : Shared) (H : Hp) (C : Addr) (cl : List (Str × Addr)) (fp : List Addr), PG (X.blk s H scope (compEnvC scope cl C X.env) fp) tg gt)
    (ht : ∀ (s : Shared) (H : Hp) (C : Addr) (cl : List (Str × Addr)) (fp : List Addr), PTs (X.blk s H scope (compEnvC scope cl C X.env) fp) ifs (sB X.K E os c))
    (hk : ∀ (s : Shared) (H : Hp) (C : Addr) (cl : List (Str × Addr)) (fp : List Addr), PE (X.blk s H scope (compEnvC scope cl C X.env) fp) kx (sD X.K E os ek))
    (he : ∀ (s : Shared) (H : Hp) (C : Addr) (cl : List (Str × Addr)) (fp : List Addr), PE (X.blk s H scope (compEnvC scope cl C X.env) fp) vx (sD X.K E os e))
    (hr : RawT X.K os (own.map (·.2)) gt t) (hv : ∀ v ∈ own.map (·.2), os[v]? = some false) (hs : ∀ x', foldedSetIterable (.Name x npos) X.env x' = pure x' := by intro _; rfl) :
    PE X (.DictComp kx vx [⟨tg, .Name x npos, ifs, 0⟩] scope pos) (sO X.K E os (eDComp (own.map (·.2)) (e1 gKeys (eVar i)) t c ek e)) :=
  PE.weak (PE.or (pe_lock (pe_dc hc hN (di_keysL (E := E) hv0 ho) ok hg ht hk he hs)) (pe_dc hc hN (di_keysL (E := E) hv0 ho) ok hg ht hk he hs)) fun σ H Q ⟨g, ρ, F, r, w⟩ => by
    cases q : eVar i ρ with
    | exc x =>
      unfold eVar at q
      split at q <;> cases q
    | bad =>
      unfold eDComp e1 eBind at w
      rw [q] at w; exact w.elim
    | ok p =>
      obtain ⟨d, ρ'⟩ := p
      obtain ⟨h1, rfl⟩ := eVar_ok q
      obtain ⟨v, e1', e2⟩ := r.fz i _ ho h1
      cases d with
      | dic tt kvs =>
        obtain ⟨a, ea, e2⟩ := e2
        subst ea
        have go : ∀ u, F a = some u → Mut (some u) → tLockE (tDc (fun σ H Q => Lkd σ H i ∧ sI X.K E os (DL.e1 gKeys (eVar i)) σ H Q) gt (sB X.K E os c) (sD X.K E os ek) (sD X.K E os e) (own.map (·.2))) σ H Q ∨
            tDc (fun σ H Q => Lkd σ H i ∧ sI X.K E os (DL.e1 gKeys (eVar i)) σ H Q) gt (sB X.K E os c) (sD X.K E os ek) (sD X.K E os e) (own.map (·.2)) σ H Q := fun u hf mu => by
          rcases r.sub a _ hf with hh | ⟨_, od, hh⟩
          · left
            obtain ⟨n1, n2⟩ := r.lock_facts hh hf mu
            exact ⟨a, u, hh, mu, fun od => ⟨⟨a, od, u, e1', upd_same⟩, dcomp_read hv hr ⟨_, ρ', F, r.lockd od hh hf mu, WG.lockO n1 n2 eDComp_nx w⟩⟩⟩
          · right
            exact ⟨⟨a, od, u, e1', hh⟩, dcomp_read hv hr ⟨g, ρ', F, r, w⟩⟩
        rcases e2 with ⟨_, l, hf, hk⟩ | ⟨_, l, hf, hk⟩
        · exact go _ hf trivial
        · exact go _ hf trivial
      | _ =>
        unfold eDComp DL.e1 eBind at w
        rw [q] at w; exact w.elim
theorem do_dcA {i : Nat} {scope : Scope} {own : List (Str × Nat)} {t : Tgt} {c : EM Bool} {ek e : EM D} {gt : TG} (hc : X.calm = true) (hN : X.N.Nodup) (hv0 : PE X (.Name x npos) (tVar i)) (ho : os[i]? = some false) (ok : BlkOk X.N X.env.scope scope own)
    (hg : ∀ (s : Shared) (H : Hp) (C : Addr) (cl : List (Str × Addr)) (fp : List Addr), PG (X.blk s H scope (compEnvC scope cl C X.env) fp) tg gt)
    (ht : ∀ (s : Shared) (H : Hp) (C : Addr) (cl : List (Str × Addr)) (fp : List Addr), PTs (X.blk s H scope (compEnvC scope cl C X.env) fp) ifs (sB X.K E os c))
    (hk : ∀ (s : Shared) (H : Hp) (C : Addr) (cl : List (Str × Addr)) (fp : List Addr), PE (X.blk s H scope (compEnvC scope cl C X.env) fp) kx (sD X.K E os ek))
    (he : ∀ (s : Shared) (H : Hp) (C : Addr) (cl : List (Str × Addr)) (fp : List Addr), PE (X.blk s H scope (compEnvC scope cl C X.env) fp) vx (sD X.K E os e))
    (hr : RawT X.K os (own.map (·.2)) gt t) (hv : ∀ v ∈ own.map (·.2), os[v]? = some false) (hs : ∀ x', foldedSetIterable (.Name x npos) X.env x' = pure x' := by intro _; rfl) :
    PE X (.DictComp kx vx [⟨tg, .Name x npos, ifs, 0⟩] scope pos) (sO X.K E os (eDCompA (own.map (·.2)) i t c ek e)) :=
  PE.weak (PE.or (do_dcK hc hN hv0 ho ok hg ht hk he hr hv hs) (do_dc hc hN (di_seq (de_var hv0 ho)) ok hg ht hk he hr hv hs)) fun σ H Q ⟨g, ρ, F, r, w⟩ => by
    unfold eDCompA at w
    split at w
    · exact .inl ⟨g, ρ, F, r, w⟩
    · exact .inr ⟨g, ρ, F, r, w⟩
/-- y = {.. for ..} on one line, y a local -/
theorem ps_setDc {i : Nat} {y : Str} {py : Pos} {iter : Expr} {scope : Scope} {own : List (Str × Nat)} {spos : Pos} {wi : TI} {g : TG} {tt : TT} {tk tv : TE} (hc : X.calm = true) (hN : X.N.Nodup) (hy : X.N[i]? = some y) (hyl : X.env.scope.names.lookup y = some .local)
    (hsw : swapsWith (.DictComp kx vx [⟨tg, iter, ifs, 0⟩] scope pos) (some (.Name y py)) spos.line X.env = pure true) (hi : PI X tg iter wi) (ok : BlkOk X.N X.env.scope scope own)
    (hg : ∀ (s : Shared) (H : Hp) (C : Addr) (cl : List (Str × Addr)) (fp : List Addr), PG (X.blk s H scope (compEnvC scope cl C X.env) fp) tg g) (ht : ∀ (s : Shared) (H : Hp) (C : Addr) (cl : List (Str × Addr)) (fp : List Addr), PTs (X.blk s H scope (compEnvC scope cl C X.env) fp) ifs tt)
    (hk : ∀ (s : Shared) (H : Hp) (C : Addr) (cl : List (Str × Addr)) (fp : List Addr), PE (X.blk s H scope (compEnvC scope cl C X.env) fp) kx tk)
    (he : ∀ (s : Shared) (H : Hp) (C : Addr) (cl : List (Str × Addr)) (fp : List Addr), PE (X.blk s H scope (compEnvC scope cl C X.env) fp) vx tv) (hs : ∀ x, foldedSetIterable iter X.env x = pure x := by intro _; rfl) :
    PS X (.Assign [.Name y py] (.DictComp kx vx [⟨tg, iter, ifs, 0⟩] scope pos) spos) (tAsg (tDc wi g tt tk tv (own.map (·.2))) (gName i)) := by
  refine ⟨fun pins s σ H Dn I h => ?_⟩
  rw [exec_Assign_Name_used _ _ _ _ hsw]
  refine wpAny_bind (wpAny_standAt (wpAny_bind ?_))
  show wpAny _ X.A (do let _ ← comprehension (.DictComp kx vx [⟨tg, iter, ifs, 0⟩] scope pos) scope X.env (firstIterPos [⟨tg, iter, ifs, 0⟩] pos) newDict false (eval iter X.env) (some (assign (.Name y py) X.env))) _ _ s
  have h2 : tDc wi g tt tk tv (own.map (·.2)) σ H (fun x H1 => gName i x σ H1 Dn.nx) := h
  refine wpAny_bind (thn (dc_core (Qf := fun _ s' => SP X pins Dn .next s') hc hN I hi ok hg ht hk he hs h2 fun L C s' m H' I' q hn f => ?_) fun _ s' hq => wpAny_pure (wpAny_pure hq))
  show wpAny _ _ (assign (.Name y py) X.env (.ref L)) _ _ _
  refine wpAny_assign_Name (store_ok2 (v := V.ref L) I' hN hy (.inl hyl) rfl (fun s2 I2 ⟨a, sb, ha⟩ => ?_) (.inr hyl))
  obtain ⟨f0, f1, f2, f3, f4, f5⟩ := f
  have hCa : C ≠ a := by
    rcases ha with z | z
    · rw [z]; exact f1
    · exact fun e => f4 y a z e.symm
  exact ⟨m, hn.sameBut sb hCa, fun h3 sb3 => ⟨_, H', I2.turned (t' := s2.toks) (fun b o hb e => (sb3.2 b hb).trans e) f0 f1 f3 f4 f5, q⟩⟩
end
theorem sw_trueD {kx vx : Expr} {gs : List Comprehension} {scope : Scope} {pos py : Pos} {y : Str} {l : Nat} {env : Env} (h1 : env.scope.kind = .function) (h2 : env.scope.names.lookup y = some .local) (h3 : (py.line == pos.line) = true)
    (h4 : (scope.names.any fun (n, k) => n == y && (k == .local || k == .cell)) = false) : swapsWith (.DictComp kx vx gs scope pos) (some (.Name y py)) l env = pure true := by
  have e1 : env.kindOf y = some .local := h2
  have e2 : env.blockKind = .function := by unfold Env.blockKind; rw [h1]; rfl
  unfold swapsWith
  simp only [e2, e1, h4, Expr.pos, h3]
  rfl
section
variable {X : Cx} {E : XK} {md : Md} {os : List Bool} {st : Stmt}
/-- y = {.. for k in NAME} -/
theorem ds_setDA {i j : Nat} {vs : List Nat} {gt : TG} {t : Tgt} {c : EM Bool} {ek e : EM D} (ho : os[j]? = some false)
    (hk : PS X st (tAsg (tDc (fun σ H Q => Lkd σ H j ∧ sI X.K E os (e1 gKeys (eVar j)) σ H Q) gt (sB X.K E os c) (sD X.K E os ek) (sD X.K E os e) vs) (gName i)))
    (hs : PS X st (tAsg (tDc (sI X.K E os (e1 gItems (eVar j))) gt (sB X.K E os c) (sD X.K E os ek) (sD X.K E os e) vs) (gName i)))
    (hr : RawT X.K os vs gt t) (hv : ∀ v ∈ vs, os[v]? = some false) (hi : i ∉ md.pp) (hkt : i ∉ md.kt) : PS X st (tS X.K E md os (os.set i true) (sSet i (eDCompA vs j t c ek e))) :=
  PS.weak (PS.or (PS.or (ps_lock hk) hk) (ds_setW (fa := eDComp vs (e1 gItems (eVar j)) t c ek e) hs (fun _ _ _ h => dcomp_read hv hr h) hi hkt)) fun σ H Dn ⟨g, ρ, F, r, hp, w⟩ => by
    have els : eDCompA vs j t c ek e ρ = eDComp vs (e1 gItems (eVar j)) t c ek e ρ → ((tLock (tAsg (tDc (fun σ H Q => Lkd σ H j ∧ sI X.K E os (e1 gKeys (eVar j)) σ H Q) gt (sB X.K E os c) (sD X.K E os ek) (sD X.K E os e) vs) (gName i)) Dn σ H ∨ tAsg (tDc (fun σ H Q => Lkd σ H j ∧ sI X.K E os (e1 gKeys (eVar j)) σ H Q) gt (sB X.K E os c) (sD X.K E os ek) (sD X.K E os e) vs) (gName i) Dn σ H) ∨
        tS X.K E md os (os.set i true) (sSet i (eDComp vs (e1 gItems (eVar j)) t c ek e)) Dn σ H) := fun z => by
      refine .inr ⟨g, ρ, F, r, hp, ?_⟩
      unfold sSet at w ⊢
      rw [z] at w
      exact w
    cases q : ρ[j]? with
    | none => exact els (by unfold eDCompA; rw [q])
    | some o =>
      cases o with
      | none => exact els (by unfold eDCompA; rw [q])
      | some d =>
        cases d with
        | dic tt kvs =>
          left
          have w0 := WS.setO (σ := σ) hp hi hkt w
          have z : eDCompA vs j t c ek e ρ = eDComp vs (e1 gKeys (eVar j)) t c ek e ρ := by unfold eDCompA; rw [q]
          rw [z] at w0
          obtain ⟨v, e1', e2⟩ := r.fz j _ ho q
          obtain ⟨a, ea, e2⟩ := e2
          subst ea
          have go : ∀ u, F a = some u → Mut (some u) → (tLock (tAsg (tDc (fun σ H Q => Lkd σ H j ∧ sI X.K E os (DL.e1 gKeys (eVar j)) σ H Q) gt (sB X.K E os c) (sD X.K E os ek) (sD X.K E os e) vs) (gName i)) Dn σ H ∨ tAsg (tDc (fun σ H Q => Lkd σ H j ∧ sI X.K E os (DL.e1 gKeys (eVar j)) σ H Q) gt (sB X.K E os c) (sD X.K E os ek) (sD X.K E os e) vs) (gName i) Dn σ H) := fun u hf mu => by
            rcases r.sub a _ hf with hh | ⟨_, od, hh⟩
            · left
              obtain ⟨n1, n2⟩ := r.lock_facts hh hf mu
              exact ⟨a, u, hh, mu, fun od => ⟨⟨a, od, u, e1', upd_same⟩, dcomp_read hv hr ⟨_, ρ, F, r.lockd od hh hf mu, WG.lockO n1 n2 eDComp_nx w0⟩⟩⟩
            · right
              exact ⟨⟨a, od, u, e1', hh⟩, dcomp_read hv hr ⟨g, ρ, F, r, w0⟩⟩
          rcases e2 with ⟨_, l, hf, hk⟩ | ⟨_, l, hf, hk⟩
          · exact go _ hf trivial
          · exact go _ hf trivial
        | _ => exact els (by unfold eDCompA; rw [q])
/-- owned or not -/
theorem ds_own0 {i : Nat} {fa : EM D} (h : PS X st (tS X.K E md os (os.set i true) (sSet i fa))) (hi : i ∉ md.pp) : PS X st (tS X.K E md os (os.set i false) (sSet i fa)) := PS.weak h fun σ H Q ⟨g, ρ, F, r, hp, w⟩ => by
  refine ⟨g, ρ, F, r, hp, ?_⟩
  unfold sSet at w ⊢
  cases q : fa ρ with
  | ok p =>
    obtain ⟨d, ρ'⟩ := p
    rw [q] at w
    intro σ' H' F' hR le
    obtain ⟨F2, r2, le2⟩ := hR.freeze i (pin_not hp hi)
    rw [List.set_set] at r2
    exact w σ' H' F2 r2 (le.trans le2)
  | exc x => rw [q] at w; exact w
  | bad => rw [q] at w; exact w
end
section
variable {ρ : Ev}
@[simp] theorem ap_dcompA (vs : List Nat) (i : Nat) (t : Tgt) (c : EM Bool) (ek e : EM D) : eDCompA vs i t c ek e ρ = (match ρ[i]? with
  | some (some (.dic _ _)) => eDComp vs (e1 gKeys (eVar i)) t c ek e ρ
  | _ => eDComp vs (e1 gItems (eVar i)) t c ek e ρ) := rfl
theorem dcompA_dS {vs : List Nat} {i : Nat} {t : Tgt} {c : EM Bool} {ek e : EM D} {ks : List Str} {f : Str → D} (h : ρ[i]? = some (some (dS ks f))) : eDCompA vs i t c ek e ρ = (match dcompM vs t c ek e (ks.map D.str) (wipeE ρ vs) [] with
    | .ok (acc, ρ2) => .ok (.dic false acc, restE ρ vs ρ2)
    | _ => .bad) := by
  unfold dS at h
  rw [ap_dcompA, h]
  dsimp only
  rw [ap_dcomp, ap_e1, ap_var, h]
  dsimp only
  rw [gKeys_dic, ap_liftOk]
  dsimp only
  rw [kvS_keys]
  try rfl
theorem dcompA_lst {vs : List Nat} {i : Nat} {t : Tgt} {c : EM Bool} {ek e : EM D} {ds : List D} (h : ρ[i]? = some (some (.lst ds))) : eDCompA vs i t c ek e ρ = (match dcompM vs t c ek e ds (wipeE ρ vs) [] with
    | .ok (acc, ρ2) => .ok (.dic false acc, restE ρ vs ρ2)
    | _ => .bad) := by
  rw [ap_dcompA, h]
  dsimp only
  rw [ap_dcomp, ap_e1, ap_var, h]
  rfl
@[simp] theorem ap_star (fx fk fv : EM D) : eStar fx fk fv ρ = (match fx ρ with
  | .ok (.dic false kvs, ρ1) => if kvs.length < sizeLine then (match fk ρ1 with
    | .ok (k, ρ2) => (match fv ρ2 with
      | .ok (v, ρ3) => (match asKey k with
        | some _ => .ok (.dic false (putD kvs k v), ρ3)
        | none => .bad)
      | _ => .bad)
    | _ => .bad) else .bad
  | _ => .bad) := rfl
@[simp] theorem ap_orS (fa fb : EM D) : eOrS fa fb ρ = (match fa ρ with
  | .ok (.set xs, ρ1) => (match fb ρ1 with
    | .ok (.set ys, ρ2) => if xs.length ≤ 3 ∧ ys.length ≤ 3 then .ok (.set (orD xs ys), ρ2) else .bad
    | _ => .bad)
  | _ => .bad) := rfl
end
end DL
/-! DL27: dict(xs) of a list of pairs. -/
namespace DL
open PySem PySem.Spec L2
set_option autoImplicit false
def pairsD : List D → Option (List (D × D))
  | [] => some []
  | .tup [k, v] :: r => (match asKey k with
    | some _ => (pairsD r).map ((k, v) :: ·)
    | none => none)
  | _ => none
def mergeD (acc kvs : List (D × D)) : List (D × D) := kvs.foldl (fun acc p => putD acc p.1 p.2) acc
def dictX (d : D) : Res D := match d with
  | .dic false kvs => .ok (.dic false kvs)
  | .lst xs => (match pairsD xs with
    | some kvs => .ok (.dic false (mergeD [] kvs))
    | none => .bad)
  | _ => .bad
theorem dictX_nx (d : D) : Noex (dictX d) := fun e h => by
  unfold dictX at h
  split at h
  · cases h
  · split at h <;> cases h
  · cases h
theorem pairs_rep {K : Frag} {F H : Hp} (s : ∀ a u, F a = some u → Rd' H a u) : ∀ {xs : List D} {kvs : List (D × D)} {vs : List V}, pairsD xs = some kvs → Reps K F xs vs →
    ∃ (ps : List Addr) (l : List (Key × V)), vs = ps.map V.ref ∧ Paired (fun p kv => SqT K H p [kV kv.1, kv.2]) ps l ∧ ∀ (acc : List (D × D)) (m : List (Key × V)), RepK K F acc m → RepK K F (mergeD acc kvs) (mergeK m l)
  | [], kvs, vs, h, r => by
    cases h
    cases (show vs = [] from r)
    exact ⟨[], [], rfl, .nil, fun acc m q => q⟩
  | d :: xs, kvs, vs, h, r => by
    cases d with
    | tup ds =>
      cases ds with
      | nil => cases h
      | cons k ds =>
        cases ds with
        | nil => cases h
        | cons v ds =>
          cases ds with
          | cons _ _ => cases h
          | nil =>
            have h' : (match asKey k with
              | some _ => (pairsD xs).map ((k, v) :: ·)
              | none => none) = some kvs := h
            cases q1 : asKey k with
            | none => rw [q1] at h'; cases h'
            | some kk =>
            rw [q1] at h'
            obtain ⟨kvs', e1, e2⟩ := Option.map_eq_some_iff.mp h'
            subst e2
            obtain ⟨w, rest, e3, hr, hrs⟩ := r
            subst e3
            obtain ⟨p, ws, e4, ht, hw⟩ := hr
            subst e4
            obtain ⟨w1, r1, e5, hk, h2⟩ := hw
            obtain ⟨w2, r2, e6, hv, h3⟩ := h2
            cases (show r2 = [] from h3)
            subst e6 e5
            have ek : w1 = kV kk := by
              have e := asKey_eq q1
              subst e
              cases kk with
              | inl i => exact hk
              | inr x => exact hk
            subst ek
            obtain ⟨ps, l, a1, a2, a3⟩ := pairs_rep s e1 hrs
            refine ⟨p :: ps, (kk, w2) :: l, by rw [a1]; rfl, .cons (ht.sq s) a2, fun acc m q => ?_⟩
            have e := asKey_eq q1
            subst e
            exact a3 _ _ (q.put hv)
    | _ => cases h
def rDictX (K : Frag) : List V → Hp → VK → Prop := fun xs H Q => (∃ (a : Addr) (kvs : List (Key × V)), xs = [.ref a] ∧ Rd H a (.dK kvs) ∧ ∀ p, H p = none → Q (.ref p) (upd H p (.dK kvs))) ∨
  (∃ (a : Addr) (ps : List Addr) (kvs : List (Key × V)), xs = [.ref a] ∧ SqL K H a (ps.map V.ref) ∧ Paired (fun p kv => SqT K H p [kV kv.1, kv.2]) ps kvs ∧ ∀ p, H p = none → Q (.ref p) (upd H p (.dK (mergeK [] kvs))))
theorem call_dictX {X : Cx} (hc : X.calm = true) : CallR X (.type "dict") (rDictX X.K) := by
  intro pins s σ H xs us Q I r h
  rcases h with ⟨a, kvs, rfl, ha, q⟩ | h
  · rw [Vals.ref1 r]
    exact d_copyOf I ha fun p s' hp I' => ⟨.ref p, _, I', rfl, q p hp⟩
  · exact call_dictP hc pins s σ H xs us Q I r h
theorem dictX_ok {K : Frag} {os : List Bool} : Op1 K os (fun v => rDictX K [v]) dictX (rO K os) := by
  intro g ρ σ H F x dx d Q hR vx e q
  unfold dictX at e
  split at e
  · rename_i kvs
    cases e
    obtain ⟨a, ea, h⟩ := vx
    rcases h with ⟨_, l, ha, hk⟩ | ⟨z, _⟩
    · exact .inl ⟨a, l, by rw [ea], ha, fun p hp => q (.ref p) _ F (hR.laid hp) FLe.refl ⟨p, rfl, Free.new hR hp (.inl ⟨rfl, l, upd_same, hk⟩)⟩⟩
    · cases z
  · rename_i xs
    split at e
    · rename_i kvs hk
      cases e
      obtain ⟨a, vs, ea, ha, hr⟩ := vx
      obtain ⟨ps, l, a1, a2, a3⟩ := pairs_rep hR.sub hk hr
      subst a1
      exact .inr ⟨a, ps, l, by rw [ea], ha, a2, fun p hp => q (.ref p) _ F (hR.laid hp) FLe.refl ⟨p, rfl, Free.new hR hp (.inl ⟨rfl, _, upd_same, a3 [] [] rfl⟩)⟩⟩
    · cases e
  · cases e
/-! names to what they have -/
theorem pairs_names (f : Str → D) : ∀ ks : List Str, pairsD (ks.map (tupS f)) = some (kvS ks f)
  | [] => rfl
  | k :: ks => by
    show (pairsD (ks.map (tupS f))).map ((D.str k, f k) :: ·) = _
    rw [pairs_names f ks]
    rfl
theorem merge_names (f : Str → D) : ∀ (ks done : List Str), (done ++ ks).Nodup → mergeD (kvS done f) (kvS ks f) = kvS (done ++ ks) f
  | [], done, _ => by rw [List.append_nil]; rfl
  | k :: ks, done, h => by
    have hk : k ∉ done := fun z => (List.nodup_append.mp h).2.2 k z k List.mem_cons_self rfl
    show mergeD (putD (kvS done f) (.str k) (f k)) (kvS ks f) = _
    rw [put_kvS, if_neg hk]
    have e : (kvS (done ++ [k]) fun x => if x = k then f k else f x) = kvS (done ++ [k]) f := kvS_congr fun m _ => by
      by_cases e : m = k
      · rw [if_pos e, e]
      · rw [if_neg e]
    rw [e, merge_names f ks (done ++ [k]) (by simpa using h), List.append_assoc]
    rfl
theorem dictX_names {ks : List Str} {f : Str → D} (h : ks.Nodup) : dictX (.lst (ks.map (tupS f))) = .ok (dS ks f) := by
  unfold dictX
  dsimp only
  rw [pairs_names]
  dsimp only
  have := merge_names f ks [] (by simpa using h)
  rw [List.nil_append] at this
  have e : kvS [] f = [] := rfl
  rw [e] at this
  rw [this]
  rfl
@[simp] theorem dictX_dic (xs : List (D × D)) : dictX (.dic false xs) = .ok (.dic false xs) := rfl
end DL
namespace DL.G
set_option autoImplicit false
open PySem PySem.Spec L2 He
def top (i : Nat) : Stmt := PySem.Challenge.pw_pairsave_k94_whole_cheapest_covers.main.body.getD i (.Pass ⟨0, 0, 0, 0⟩)
def fn : List He.DefD := ([mkD "frac" (top 3), mkD "plus" (top 4), mkD "minus" (top 5), mkD "times" (top 6), mkD "over" (top 7), mkD "sum_of" (top 8), mkD "less" (top 9), mkD "whole" (top 11), mkD "common" (top 12), mkD "in_row" (top 13), mkD "risen" (top 15), mkD "difference" (top 16), mkD "highest" (top 17), mkD "lowest_rest" (top 18), mkD "first_place" (top 19), mkD "first_below" (top 20), mkD "stepped" (top 21), mkD "first_fall" (top 22), mkD "falls" (top 23), mkD "cheapest_cover" (top 25), mkD "_law_in_box" (top 27), mkD "_law_gcd" (top 28), mkD "_law_ratio" (top 29), mkD "_law_add" (top 30), mkD "_law_mul" (top 31), mkD "_law_price" (top 32), mkD "_law_less" (top 33), mkD "_law_mixed" (top 34), mkD "_law_rest" (top 35), mkD "_law_pool" (top 36)] : List He.DefD) ++ ([mkD "_law_draw" (top 37), mkD "_law_pick" (top 38), mkD "_law_turned" (top 39), mkD "_law_space" (top 40), mkD "_law_split" (top 41), mkD "_law_signed" (top 42), mkD "_law_short" (top 43), mkD "_law_entries" (top 44), mkD "_law_next" (top 45), mkD "_law_baskets" (top 46), mkD "_law_same" (top 47), mkD "_law_row" (top 48), mkD "_law_corners" (top 49), mkD "_law_best" (top 50), mkD "law" (top 51)] : List He.DefD)
def fa : List He.Fa := ([.glo "frac", .glo "plus", .glo "minus", .glo "times", .glo "over", .glo "sum_of", .glo "less", .glo "whole", .glo "common", .glo "in_row", .glo "risen", .glo "difference", .glo "highest", .glo "lowest_rest", .glo "first_place", .glo "first_below", .glo "stepped", .glo "first_fall", .glo "falls", .glo "cheapest_cover", .glo "_law_in_box", .glo "_law_gcd", .glo "_law_ratio", .glo "_law_add", .glo "_law_mul", .glo "_law_price", .glo "_law_less", .glo "_law_mixed", .glo "_law_rest", .glo "_law_pool"] : List He.Fa) ++ ([.glo "_law_draw", .glo "_law_pick", .glo "_law_turned", .glo "_law_space", .glo "_law_split", .glo "_law_signed", .glo "_law_short", .glo "_law_entries", .glo "_law_next", .glo "_law_baskets", .glo "_law_same", .glo "_law_row", .glo "_law_corners", .glo "_law_best", .glo "law", .free "abs", .free "bool", .free "dict", .free "enumerate", .free "int", .free "isinstance", .free "len", .free "list", .free "max", .free "min", .free "range", .free "set", .free "sorted", .free "str", .free "tuple"] : List He.Fa) ++ ([.glo "NOUGHT"] : List He.Fa)
def ex (K : PySem.W.Frag) : Bool := He.eqO (PySem.W.nsIn K mainGlobals "gcd") (some (some (.builtin "math.gcd"))) && He.tupB K "NOUGHT" [.int 0, .int 1]
section
variable {P : Program} {w : World} {K : Frag} {mg : Str → Option Value} {base : Heap}
theorem mg_gcd (c : Base fa fn ex K mg) : mg "gcd" = some (.builtin "math.gcd") := c.bfun fun K h => by
  unfold ex at h
  first | exact h | (simp only [Bool.and_eq_true] at h; first | exact h.1 | exact h.1.1 | exact h.1.1.1)
theorem tup_NOUGHT (c : Base fa fn ex K mg) : He.tupB K "NOUGHT" [.int 0, .int 1] = true := by
  have h := c.e
  unfold ex at h
  first | exact h | (simp only [Bool.and_eq_true] at h; first | exact h.2 | exact h.1 | exact h.1.2 | exact h.1.1 | exact h.1.1.2 | exact h.1.1.1)
abbrev N_frac : List Str := ["p", "q", "shared"]
theorem sc_frac : FnScope N_frac ["p", "q"] (defScope (top 3)) := ⟨rfl, rfl, rfl, by decide +kernel, rfl, by decide +kernel, by decide +kernel⟩
def b_frac : SM := (sSeq (sSet 2 (e2 gcdD (eVar 0) (eVar 1)))
 (sSeq (sIf (e2 (cmpD fun i j => decide (i < j)) (eVar 1) (eRet (.int 0)))
 (sSeq (sSet 2 (e1 negD (eVar 2)))
 sNil)
 sNil)
 (sSeq (sRet (eL gTup (eCons (e2 fdivD (eVar 0) (eVar 2)) (eCons (e2 fdivD (eVar 1) (eVar 2)) eNil)))) sNil)))
def m_frac : List D → Res (D × List D) := fnM 3 2 false b_frac
theorem ok_frac (c : Base fa fn ex K mg) : Ok P w K mg base "frac" 1 ["p", "q"] [false, false] false m_frac := mkOk c 0 0 rfl rfl (fun _ _ _ _ _ _ us hl => match us, hl with | [_, _], _ => rfl) fun F =>
  fn_D F sc_frac rfl (by decide) (by decide) (kt := []) (os' := [false, false, false]) fun cdv A outer s H E hr => (dss_cons (os1 := [false, false, false])
 (ds_set (tg := .Constant .none 0 ⟨0, 0, 0, 0⟩) (fun h => ps_set (i := 2) sc_frac.nd rfl (by first | exact Or.inl rfl | exact Or.inr rfl) h) (by decide) (by decide) (de_call2 (fun h => pe_callBfun cr_gcd (by rfl) (mg_gcd c) h) gcdD_ok gcdD_nx (de_var (pv 0) rfl) (dv_var (pv 1))))
 (dss_cons (os1 := [false, false, false])
 (ds_if (dt_cmp op_lt (cmpD_ok fun i j => decide (i < j)) (cmpD_nx _) (nomark _) (de_var (pv 1) rfl) (dv_of de_int))
 (dss_cons (os1 := [false, false, false])
 (ds_set (tg := .Constant .none 0 ⟨0, 0, 0, 0⟩) (fun h => ps_set (i := 2) sc_frac.nd rfl (by first | exact Or.inl rfl | exact Or.inr rfl) h) (by decide) (by decide) (de_un un_neg negD_ok negD_nx (dv_var (pv 2))))
 dss_nil)
 dss_nil)
 (dss_cons (os1 := [false, false, false]) (ds_ret rfl (de_tup (da_cons (de_op op_fdivA fdivD_ok fdivD_nx (de_var (pv 0) rfl) (dv_var (pv 2))) (da_cons (de_op op_fdivA fdivD_ok fdivD_nx (de_var (pv 1) rfl) (dv_var (pv 2))) da_nil)))) dss_nil)))
abbrev N_plus : List Str := ["a", "b"]
theorem sc_plus : FnScope N_plus ["a", "b"] (defScope (top 4)) := ⟨rfl, rfl, rfl, by decide +kernel, rfl, by decide +kernel, by decide +kernel⟩
def b_plus : SM := (sSeq (sRet (eCall [none, none] m_frac (eCons (e2 addD (e2 mulD (e2 ixD (eVar 0) (eRet (.int 0))) (e2 ixD (eVar 1) (eRet (.int 1)))) (e2 mulD (e2 ixD (eVar 1) (eRet (.int 0))) (e2 ixD (eVar 0) (eRet (.int 1))))) (eCons (e2 mulD (e2 ixD (eVar 0) (eRet (.int 1))) (e2 ixD (eVar 1) (eRet (.int 1)))) eNil)))) sNil)
def m_plus : List D → Res (D × List D) := fnM 2 2 false b_plus
theorem ok_plus (c : Base fa fn ex K mg) : Ok P w K mg base "plus" 2 ["a", "b"] [false, false] false m_plus := mkOk c 1 1 rfl rfl (fun _ _ _ _ _ _ us hl => match us, hl with | [_, _], _ => rfl) fun F =>
  fn_D F sc_plus rfl (by decide) (by decide) (kt := []) (os' := [false, false]) fun cdv A outer s H E hr => (dss_cons (os1 := [false, false]) (ds_ret rfl (dcall (ks := [none, none]) (ok_frac c) rfl hr (by decide) (by rfl) (dc_val (de_op op_add4 addD_ok addD_nx (de_op op_mul2 mulD_ok mulD_nx (de_ix (hr_cls hr) (by intro _ _; rfl) (de_var (pv 0) rfl) (dv_of de_int)) (dv_of (de_ix (hr_cls hr) (by intro _ _; rfl) (de_var (pv 1) rfl) (dv_of de_int)))) (dv_of (de_op op_mul2 mulD_ok mulD_nx (de_ix (hr_cls hr) (by intro _ _; rfl) (de_var (pv 1) rfl) (dv_of de_int)) (dv_of (de_ix (hr_cls hr) (by intro _ _; rfl) (de_var (pv 0) rfl) (dv_of de_int)))))) (dc_val (de_op op_mul2 mulD_ok mulD_nx (de_ix (hr_cls hr) (by intro _ _; rfl) (de_var (pv 0) rfl) (dv_of de_int)) (dv_of (de_ix (hr_cls hr) (by intro _ _; rfl) (de_var (pv 1) rfl) (dv_of de_int)))) dc_nil)) rfl (by decide))) dss_nil)
abbrev N_minus : List Str := ["a", "b"]
theorem sc_minus : FnScope N_minus ["a", "b"] (defScope (top 5)) := ⟨rfl, rfl, rfl, by decide +kernel, rfl, by decide +kernel, by decide +kernel⟩
def b_minus : SM := (sSeq (sRet (eCall [none, none] m_frac (eCons (e2 subD (e2 mulD (e2 ixD (eVar 0) (eRet (.int 0))) (e2 ixD (eVar 1) (eRet (.int 1)))) (e2 mulD (e2 ixD (eVar 1) (eRet (.int 0))) (e2 ixD (eVar 0) (eRet (.int 1))))) (eCons (e2 mulD (e2 ixD (eVar 0) (eRet (.int 1))) (e2 ixD (eVar 1) (eRet (.int 1)))) eNil)))) sNil)
def m_minus : List D → Res (D × List D) := fnM 2 2 false b_minus
theorem ok_minus (c : Base fa fn ex K mg) : Ok P w K mg base "minus" 2 ["a", "b"] [false, false] false m_minus := mkOk c 2 2 rfl rfl (fun _ _ _ _ _ _ us hl => match us, hl with | [_, _], _ => rfl) fun F =>
  fn_D F sc_minus rfl (by decide) (by decide) (kt := []) (os' := [false, false]) fun cdv A outer s H E hr => (dss_cons (os1 := [false, false]) (ds_ret rfl (dcall (ks := [none, none]) (ok_frac c) rfl hr (by decide) (by rfl) (dc_val (de_op op_sub subD_ok subD_nx (de_op op_mul2 mulD_ok mulD_nx (de_ix (hr_cls hr) (by intro _ _; rfl) (de_var (pv 0) rfl) (dv_of de_int)) (dv_of (de_ix (hr_cls hr) (by intro _ _; rfl) (de_var (pv 1) rfl) (dv_of de_int)))) (dv_of (de_op op_mul2 mulD_ok mulD_nx (de_ix (hr_cls hr) (by intro _ _; rfl) (de_var (pv 1) rfl) (dv_of de_int)) (dv_of (de_ix (hr_cls hr) (by intro _ _; rfl) (de_var (pv 0) rfl) (dv_of de_int)))))) (dc_val (de_op op_mul2 mulD_ok mulD_nx (de_ix (hr_cls hr) (by intro _ _; rfl) (de_var (pv 0) rfl) (dv_of de_int)) (dv_of (de_ix (hr_cls hr) (by intro _ _; rfl) (de_var (pv 1) rfl) (dv_of de_int)))) dc_nil)) rfl (by decide))) dss_nil)
abbrev N_times : List Str := ["a", "b"]
theorem sc_times : FnScope N_times ["a", "b"] (defScope (top 6)) := ⟨rfl, rfl, rfl, by decide +kernel, rfl, by decide +kernel, by decide +kernel⟩
def b_times : SM := (sSeq (sRet (eCall [none, none] m_frac (eCons (e2 mulD (e2 ixD (eVar 0) (eRet (.int 0))) (e2 ixD (eVar 1) (eRet (.int 0)))) (eCons (e2 mulD (e2 ixD (eVar 0) (eRet (.int 1))) (e2 ixD (eVar 1) (eRet (.int 1)))) eNil)))) sNil)
def m_times : List D → Res (D × List D) := fnM 2 2 false b_times
theorem ok_times (c : Base fa fn ex K mg) : Ok P w K mg base "times" 2 ["a", "b"] [false, false] false m_times := mkOk c 3 3 rfl rfl (fun _ _ _ _ _ _ us hl => match us, hl with | [_, _], _ => rfl) fun F =>
  fn_D F sc_times rfl (by decide) (by decide) (kt := []) (os' := [false, false]) fun cdv A outer s H E hr => (dss_cons (os1 := [false, false]) (ds_ret rfl (dcall (ks := [none, none]) (ok_frac c) rfl hr (by decide) (by rfl) (dc_val (de_op op_mul2 mulD_ok mulD_nx (de_ix (hr_cls hr) (by intro _ _; rfl) (de_var (pv 0) rfl) (dv_of de_int)) (dv_of (de_ix (hr_cls hr) (by intro _ _; rfl) (de_var (pv 1) rfl) (dv_of de_int)))) (dc_val (de_op op_mul2 mulD_ok mulD_nx (de_ix (hr_cls hr) (by intro _ _; rfl) (de_var (pv 0) rfl) (dv_of de_int)) (dv_of (de_ix (hr_cls hr) (by intro _ _; rfl) (de_var (pv 1) rfl) (dv_of de_int)))) dc_nil)) rfl (by decide))) dss_nil)
abbrev N_over : List Str := ["a", "b"]
theorem sc_over : FnScope N_over ["a", "b"] (defScope (top 7)) := ⟨rfl, rfl, rfl, by decide +kernel, rfl, by decide +kernel, by decide +kernel⟩
def b_over : SM := (sSeq (sRet (eCall [none, none] m_frac (eCons (e2 mulD (e2 ixD (eVar 0) (eRet (.int 0))) (e2 ixD (eVar 1) (eRet (.int 1)))) (eCons (e2 mulD (e2 ixD (eVar 0) (eRet (.int 1))) (e2 ixD (eVar 1) (eRet (.int 0)))) eNil)))) sNil)
def m_over : List D → Res (D × List D) := fnM 2 2 false b_over
theorem ok_over (c : Base fa fn ex K mg) : Ok P w K mg base "over" 2 ["a", "b"] [false, false] false m_over := mkOk c 4 4 rfl rfl (fun _ _ _ _ _ _ us hl => match us, hl with | [_, _], _ => rfl) fun F =>
  fn_D F sc_over rfl (by decide) (by decide) (kt := []) (os' := [false, false]) fun cdv A outer s H E hr => (dss_cons (os1 := [false, false]) (ds_ret rfl (dcall (ks := [none, none]) (ok_frac c) rfl hr (by decide) (by rfl) (dc_val (de_op op_mul2 mulD_ok mulD_nx (de_ix (hr_cls hr) (by intro _ _; rfl) (de_var (pv 0) rfl) (dv_of de_int)) (dv_of (de_ix (hr_cls hr) (by intro _ _; rfl) (de_var (pv 1) rfl) (dv_of de_int)))) (dc_val (de_op op_mul2 mulD_ok mulD_nx (de_ix (hr_cls hr) (by intro _ _; rfl) (de_var (pv 0) rfl) (dv_of de_int)) (dv_of (de_ix (hr_cls hr) (by intro _ _; rfl) (de_var (pv 1) rfl) (dv_of de_int)))) dc_nil)) rfl (by decide))) dss_nil)
abbrev N_sum_of : List Str := ["numbers", "found", "number"]
theorem sc_sum_of : FnScope N_sum_of ["numbers"] (defScope (top 8)) := ⟨rfl, rfl, rfl, by decide +kernel, rfl, by decide +kernel, by decide +kernel⟩
def l_sum_of_1 : SM := (sSeq (sSet 1 (eCall [none, none] m_plus (eCons (eVar 1) (eCons (eVar 2) eNil))))
 sNil)
def b_sum_of : SM := (sSeq (sSet 1 (eRet (.tup [.int 0, .int 1])))
 (sSeq (forA 0 (gSet 2) l_sum_of_1)
 (sSeq (sRet (eVar 1)) sNil)))
def m_sum_of : List D → Res (D × List D) := fnM 3 1 false b_sum_of
theorem ok_sum_of (c : Base fa fn ex K mg) : Ok P w K mg base "sum_of" 3 ["numbers"] [false] false m_sum_of := mkOk c 5 5 rfl rfl (fun _ _ _ _ _ _ us hl => match us, hl with | [_], _ => rfl) fun F =>
  fn_D F sc_sum_of rfl (by decide) (by decide) (kt := []) (os' := [false, false, false]) fun cdv A outer s H E hr => (dss_cons (os1 := [false, false, false])
 (ds_set (tg := .Constant .none 0 ⟨0, 0, 0, 0⟩) (fun h => ps_set (i := 1) sc_sum_of.nd rfl (by first | exact Or.inl rfl | exact Or.inr rfl) h) (by decide) (by decide) (de_glob (vs := [.int 0, .int 1]) (ds := [.int 0, .int 1]) (by rfl) (c.glo 60 rfl) (tup_NOUGHT c) (fun _ => ⟨_, _, rfl, rfl, ⟨_, _, rfl, rfl, rfl⟩⟩)))
 (dss_cons (os1 := [false, false, false])
 (ds_forA (os1 := [false, false, false]) PassesOwn.never rfl (pv 0) rfl (dg_name (pg_name (i := 2) sc_sum_of.nd rfl (by first | exact Or.inl rfl | exact Or.inr rfl)) (by decide) (by decide))
 (dss_cons (os1 := [false, false, false])
 (ds_set (tg := .Constant .none 0 ⟨0, 0, 0, 0⟩) (fun h => ps_set (i := 1) sc_sum_of.nd rfl (by first | exact Or.inl rfl | exact Or.inr rfl) h) (by decide) (by decide) (dcall (ks := [none, none]) (ok_plus c) rfl hr (by decide) (by rfl) (dc_val (de_var (pv 1) rfl) (dc_val (de_var (pv 2) rfl) dc_nil)) rfl (by decide)))
 dss_nil))
 (dss_cons (os1 := [false, false, false]) (ds_ret rfl (de_var (pv 1) rfl)) dss_nil)))
abbrev N_less : List Str := ["a", "b"]
theorem sc_less : FnScope N_less ["a", "b"] (defScope (top 9)) := ⟨rfl, rfl, rfl, by decide +kernel, rfl, by decide +kernel, by decide +kernel⟩
def b_less : SM := (sSeq (sRet (eBl (e2 (cmpD fun i j => decide (i < j)) (e2 mulD (e2 ixD (eVar 0) (eRet (.int 0))) (e2 ixD (eVar 1) (eRet (.int 1)))) (e2 mulD (e2 ixD (eVar 1) (eRet (.int 0))) (e2 ixD (eVar 0) (eRet (.int 1))))))) sNil)
def m_less : List D → Res (D × List D) := fnM 2 2 false b_less
theorem ok_less (c : Base fa fn ex K mg) : Ok P w K mg base "less" 1 ["a", "b"] [false, false] false m_less := mkOk c 6 6 rfl rfl (fun _ _ _ _ _ _ us hl => match us, hl with | [_, _], _ => rfl) fun F =>
  fn_D F sc_less rfl (by decide) (by decide) (kt := []) (os' := [false, false]) fun cdv A outer s H E hr => (dss_cons (os1 := [false, false]) (ds_ret rfl (dv_cmp op_lt (cmpD_ok fun i j => decide (i < j)) (cmpD_nx _) (nomark _) (de_op op_mul2 mulD_ok mulD_nx (de_ix (hr_cls hr) (by intro _ _; rfl) (de_var (pv 0) rfl) (dv_of de_int)) (dv_of (de_ix (hr_cls hr) (by intro _ _; rfl) (de_var (pv 1) rfl) (dv_of de_int)))) (dv_of (de_op op_mul2 mulD_ok mulD_nx (de_ix (hr_cls hr) (by intro _ _; rfl) (de_var (pv 1) rfl) (dv_of de_int)) (dv_of (de_ix (hr_cls hr) (by intro _ _; rfl) (de_var (pv 0) rfl) (dv_of de_int))))))) dss_nil)
abbrev N_whole : List Str := ["space", "box", "name", "top"]
theorem sc_whole : FnScope N_whole ["space", "box"] (defScope (top 11)) := ⟨rfl, rfl, rfl, by decide +kernel, rfl, by decide +kernel, by decide +kernel⟩
def b_whole : SM := (sSeq (sRet (eDCompA [2, 3] 0 (gTupT 2 (gsCons (gSet 2) (gsCons (gSet 3) gsNil))) eYes (eVar 2) (eGet2 (eVar 1) (eVar 2) (eL gTup (eCons (eRet (.int 0)) (eCons (eVar 3) eNil)))))) sNil)
def m_whole : List D → Res (D × List D) := fnM 4 2 false b_whole
theorem ok_whole (c : Base fa fn ex K mg) : Ok P w K mg base "whole" 1 ["space", "box"] [false, false] false m_whole := mkOk c 7 7 rfl rfl (fun _ _ _ _ _ _ us hl => match us, hl with | [_, _], _ => rfl) fun F =>
  fn_D F sc_whole rfl (by decide) (by decide) (kt := []) (os' := [false, false, false, false]) fun cdv A outer s H E hr => (dss_cons (os1 := [false, false, false, false]) (ds_ret rfl (de_of (do_dcA (own := [("name", 2), ("top", 3)]) rfl sc_whole.nd (pv 0) rfl (blkOk_by (N := N_whole) (sc := defScope (top 11)) (own := [("name", 2), ("top", 3)]) (by decide +kernel)) (gt := (L2.gTup _ 2 (gCons (gName 2) (gCons (gName 3) gNil)))) (fun _ _ _ _ _ => (pg_tup rfl (pgs_cons (pg_name (i := 2) sc_whole.nd rfl (by first | exact Or.inl rfl | exact Or.inr rfl)) (pgs_cons (pg_name (i := 3) sc_whole.nd rfl (by first | exact Or.inl rfl | exact Or.inr rfl)) pgs_nil)))) (fun _ _ _ _ _ => dts_nil) (fun _ _ _ _ _ => (de_var (pv 2) rfl)) (fun _ _ _ _ _ => (de_get2 (hr_cls hr) (de_var (pv 1) rfl) (de_var (pv 2) rfl) (de_tup (da_cons de_int (da_cons (de_var (pv 3) rfl) da_nil))) ⟨rfl, rfl, rfl, rfl⟩)) (raw_tup (raws_cons (raw_name (by decide) rfl) (raws_cons (raw_name (by decide) rfl) raws_nil))) (by decide)))) dss_nil)
abbrev N_common : List Str := ["space", "one", "other", "first", "second", "found", "name", "low", "high"]
theorem sc_common : FnScope N_common ["space", "one", "other"] (defScope (top 12)) := ⟨rfl, rfl, rfl, by decide +kernel, rfl, by decide +kernel, by decide +kernel⟩
def l_common_1 : SM := (sSeq (sSet 7 (e2 maxD (e2 ixD (e2 ixD (eVar 3) (eVar 6)) (eRet (.int 0))) (e2 ixD (e2 ixD (eVar 4) (eVar 6)) (eRet (.int 0)))))
 (sSeq (sSet 8 (e2 minD (e2 ixD (e2 ixD (eVar 3) (eVar 6)) (eRet (.int 1))) (e2 ixD (e2 ixD (eVar 4) (eVar 6)) (eRet (.int 1)))))
 (sSeq (sIf (e2 (cmpD fun i j => decide (j < i)) (eVar 7) (eVar 8))
 (sSeq (sRet (eRet .non)) sNil)
 sNil)
 (sSeq (sPut 5 setD1 (eL gTup (eCons (eVar 7) (eCons (eVar 8) eNil))) (eVar 6))
 sNil))))
def b_common : SM := (sSeq (sSet 3 (eCall [none, none] m_whole (eCons (eVar 0) (eCons (eVar 1) eNil))))
 (sSeq (sSet 4 (eCall [none, none] m_whole (eCons (eVar 0) (eCons (eVar 2) eNil))))
 (sSeq (sSet 5 (eRet (.dic false [])))
 (sSeq (forA 3 (gSet 6) l_common_1)
 (sSeq (sRet (eVar 5)) sNil)))))
def m_common : List D → Res (D × List D) := fnM 9 3 false b_common
theorem ok_common (c : Base fa fn ex K mg) : Ok P w K mg base "common" 2 ["space", "one", "other"] [false, false, false] false m_common := mkOk c 8 8 rfl rfl (fun _ _ _ _ _ _ us hl => match us, hl with | [_, _, _], _ => rfl) fun F =>
  fn_D F sc_common rfl (by decide) (by decide) (kt := []) (os' := [false, false, false, false, false, false, false, false, false]) fun cdv A outer s H E hr => (dss_cons (os1 := [false, false, false, false, false, false, false, false, false])
 (ds_set (tg := .Constant .none 0 ⟨0, 0, 0, 0⟩) (fun h => ps_set (i := 3) sc_common.nd rfl (by first | exact Or.inl rfl | exact Or.inr rfl) h) (by decide) (by decide) (dcall (ks := [none, none]) (ok_whole c) rfl hr (by decide) (by rfl) (dc_val (de_var (pv 0) rfl) (dc_val (de_var (pv 1) rfl) dc_nil)) rfl (by decide)))
 (dss_cons (os1 := [false, false, false, false, false, false, false, false, false])
 (ds_set (tg := .Constant .none 0 ⟨0, 0, 0, 0⟩) (fun h => ps_set (i := 4) sc_common.nd rfl (by first | exact Or.inl rfl | exact Or.inr rfl) h) (by decide) (by decide) (dcall (ks := [none, none]) (ok_whole c) rfl hr (by decide) (by rfl) (dc_val (de_var (pv 0) rfl) (dc_val (de_var (pv 2) rfl) dc_nil)) rfl (by decide)))
 (dss_cons (os1 := [false, false, false, false, false, true, false, false, false])
 (ds_setO (tg := .Constant .none 0 ⟨0, 0, 0, 0⟩) (fun h => ps_set (i := 5) sc_common.nd rfl (by first | exact Or.inl rfl | exact Or.inr rfl) h) (by decide) (by decide) do_newK)
 (dss_cons (os1 := [false, false, false, false, false, true, false, false, false])
 (ds_forA (os1 := [false, false, false, false, false, true, false, false, false]) PassesOwn.never rfl (pv 3) rfl (dg_name (pg_name (i := 6) sc_common.nd rfl (by first | exact Or.inl rfl | exact Or.inr rfl)) (by decide) (by decide))
 (dss_cons (os1 := [false, false, false, false, false, true, false, false, false])
 (ds_set (tg := .Constant .none 0 ⟨0, 0, 0, 0⟩) (fun h => ps_set (i := 7) sc_common.nd rfl (by first | exact Or.inl rfl | exact Or.inr rfl) h) (by decide) (by decide) (de_call2 (fun h => pe_callB (call_max2 rfl) (by rfl) (c.free 53 rfl) (by first | exact boot_max | exact PySem.boot_max | exact PyProof.Rows.boot_max | exact L2.boot_max) h) maxD_ok maxD_nx (de_ix (hr_cls hr) (by intro _ _; rfl) (de_ix (hr_cls hr) (by intro _ _; rfl) (de_var (pv 3) rfl) (dv_var (pv 6))) (dv_of de_int)) (dv_of (de_ix (hr_cls hr) (by intro _ _; rfl) (de_ix (hr_cls hr) (by intro _ _; rfl) (de_var (pv 4) rfl) (dv_var (pv 6))) (dv_of de_int)))))
 (dss_cons (os1 := [false, false, false, false, false, true, false, false, false])
 (ds_set (tg := .Constant .none 0 ⟨0, 0, 0, 0⟩) (fun h => ps_set (i := 8) sc_common.nd rfl (by first | exact Or.inl rfl | exact Or.inr rfl) h) (by decide) (by decide) (de_call2 (fun h => pe_callB (call_min2 rfl) (by rfl) (c.free 54 rfl) (by first | exact boot_min | exact PySem.boot_min | exact PyProof.Rows.boot_min | exact L2.boot_min) h) minD_ok minD_nx (de_ix (hr_cls hr) (by intro _ _; rfl) (de_ix (hr_cls hr) (by intro _ _; rfl) (de_var (pv 3) rfl) (dv_var (pv 6))) (dv_of de_int)) (dv_of (de_ix (hr_cls hr) (by intro _ _; rfl) (de_ix (hr_cls hr) (by intro _ _; rfl) (de_var (pv 4) rfl) (dv_var (pv 6))) (dv_of de_int)))))
 (dss_cons (os1 := [false, false, false, false, false, true, false, false, false])
 (ds_if (dt_cmp op_gt (cmpD_ok fun i j => decide (j < i)) (cmpD_nx _) (nomark _) (de_var (pv 7) rfl) (dv_var (pv 8)))
 (dss_cons (os1 := [false, false, false, false, false, true, false, false, false]) (ds_ret rfl de_non) dss_nil)
 dss_nil)
 (dss_cons (os1 := [false, false, false, false, false, true, false, false, false])
 (ds_put rfl (pv 5) (de_tup (da_cons (de_var (pv 7) rfl) (da_cons (de_var (pv 8) rfl) da_nil))) (dv_var (pv 6)) (hr_cls hr) (fun h g => ps_asg h g))
 dss_nil)))))
 (dss_fz 5 (by decide) (dss_cons (os1 := [false, false, false, false, false, false, false, false, false]) (ds_ret rfl (de_var (pv 5) rfl)) dss_nil))))))
abbrev N_in_row : List Str := ["basket", "name"]
theorem sc_in_row : FnScope N_in_row ["basket"] (defScope (top 13)) := ⟨rfl, rfl, rfl, by decide +kernel, rfl, by decide +kernel, by decide +kernel⟩
def b_in_row : SM := (sSeq (sRet (eComp [1] (e1 gItems (e1 sortedD (eVar 0))) (gSet 1) eYes (e2 ixD (eVar 0) (eVar 1)))) sNil)
def m_in_row : List D → Res (D × List D) := fnM 2 1 false b_in_row
theorem ok_in_row (c : Base fa fn ex K mg) : Ok P w K mg base "in_row" 1 ["basket"] [false] false m_in_row := mkOk c 9 9 rfl rfl (fun _ _ _ _ _ _ us hl => match us, hl with | [_], _ => rfl) fun F =>
  fn_D F sc_in_row rfl (by decide) (by decide) (kt := []) (os' := [false, false]) fun cdv A outer s H E hr => (dss_cons (os1 := [false, false]) (ds_ret rfl (de_of (do_lc (own := [("name", 1)]) rfl sc_in_row.nd (di_seq (de_of (de_call1 (fun h => pe_callB (call_sortX rfl (hr_cls2 hr)) (by rfl) (c.free 57 rfl) (by first | exact boot_sorted | exact PySem.boot_sorted | exact PyProof.Rows.boot_sorted | exact L2.boot_sorted) h) sortedD_ok sortedD_nx (dv_var (pv 0))))) (blkOk_by (N := N_in_row) (sc := defScope (top 13)) (own := [("name", 1)]) (by decide +kernel)) (gt := (gName 1)) (fun _ _ _ _ _ => (pg_name (i := 1) sc_in_row.nd rfl (by first | exact Or.inl rfl | exact Or.inr rfl))) (fun _ _ _ _ _ => dts_nil) (fun _ _ _ _ _ => (de_ix (hr_cls hr) (by intro _ _; rfl) (de_var (pv 0) rfl) (dv_var (pv 1)))) (raw_name (by decide) rfl) (by decide)))) dss_nil)
abbrev N_risen : List Str := ["base", "rises", "basket", "name"]
theorem sc_risen : FnScope N_risen ["base", "rises", "basket"] (defScope (top 15)) := ⟨rfl, rfl, rfl, by decide +kernel, rfl, by decide +kernel, by decide +kernel⟩
def b_risen : SM := (sSeq (sRet (eCall [none, none] m_plus (eCons (eVar 0) (eCons (eCall [none] m_sum_of (eCons (eComp [3] (e1 gItems (e1 sortedD (eVar 1))) (gSet 3) eYes (eCall [none, none] m_times (eCons (e2 ixD (eVar 1) (eVar 3)) (eCons (eCall [none, none] m_frac (eCons (e2 ixD (eVar 2) (eVar 3)) (eCons (eRet (.int 1)) eNil))) eNil)))) eNil)) eNil)))) sNil)
def m_risen : List D → Res (D × List D) := fnM 4 3 false b_risen
theorem ok_risen (c : Base fa fn ex K mg) : Ok P w K mg base "risen" 4 ["base", "rises", "basket"] [false, false, false] false m_risen := mkOk c 10 10 rfl rfl (fun _ _ _ _ _ _ us hl => match us, hl with | [_, _, _], _ => rfl) fun F =>
  fn_D F sc_risen rfl (by decide) (by decide) (kt := []) (os' := [false, false, false, false]) fun cdv A outer s H E hr => (dss_cons (os1 := [false, false, false, false]) (ds_ret rfl (dcall (ks := [none, none]) (ok_plus c) rfl hr (by decide) (by rfl) (dc_val (de_var (pv 0) rfl) (dc_val (dcall (ks := [none]) (ok_sum_of c) rfl hr (by decide) (by rfl) (dc_val (de_of (do_lc (own := [("name", 3)]) rfl sc_risen.nd (di_seq (de_of (de_call1 (fun h => pe_callB (call_sortX rfl (hr_cls2 hr)) (by rfl) (c.free 57 rfl) (by first | exact boot_sorted | exact PySem.boot_sorted | exact PyProof.Rows.boot_sorted | exact L2.boot_sorted) h) sortedD_ok sortedD_nx (dv_var (pv 1))))) (blkOk_by (N := N_risen) (sc := defScope (top 15)) (own := [("name", 3)]) (by decide +kernel)) (gt := (gName 3)) (fun _ _ _ _ _ => (pg_name (i := 3) sc_risen.nd rfl (by first | exact Or.inl rfl | exact Or.inr rfl))) (fun _ _ _ _ _ => dts_nil) (fun _ _ _ _ _ => (dcall (ks := [none, none]) (ok_times c) rfl hr (by decide) (by rfl) (dc_val (de_ix (hr_cls hr) (by intro _ _; rfl) (de_var (pv 1) rfl) (dv_var (pv 3))) (dc_val (dcall (ks := [none, none]) (ok_frac c) rfl hr (by decide) (by rfl) (dc_val (de_ix (hr_cls hr) (by intro _ _; rfl) (de_var (pv 2) rfl) (dv_var (pv 3))) (dc_val de_int dc_nil)) rfl (by decide)) dc_nil)) rfl (by decide))) (raw_name (by decide) rfl) (by decide))) dc_nil) rfl (by decide)) dc_nil)) rfl (by decide))) dss_nil)
abbrev N_difference : List Str := ["one", "other", "names", "rises", "name"]
theorem sc_difference : FnScope N_difference ["one", "other"] (defScope (top 16)) := ⟨rfl, rfl, rfl, by decide +kernel, rfl, by decide +kernel, by decide +kernel⟩
def b_difference : SM := (sSeq (sSet 2 (e1 sortS (eOrS (e1 setKD (e2 ixD (eVar 0) (eRet (.int 2)))) (e1 setKD (e2 ixD (eVar 1) (eRet (.int 2)))))))
 (sSeq (sSet 3 (eDCompA [4] 2 (gSet 4) eYes (eVar 4) (eCall [none, none] m_minus (eCons (eGet2 (e2 ixD (eVar 0) (eRet (.int 2))) (eVar 4) (eRet (.tup [.int 0, .int 1]))) (eCons (eGet2 (e2 ixD (eVar 1) (eRet (.int 2))) (eVar 4) (eRet (.tup [.int 0, .int 1]))) eNil)))))
 (sSeq (sRet (eL gTup (eCons (eCall [none, none] m_minus (eCons (e2 ixD (eVar 0) (eRet (.int 1))) (eCons (e2 ixD (eVar 1) (eRet (.int 1))) eNil))) (eCons (eVar 3) eNil)))) sNil)))
def m_difference : List D → Res (D × List D) := fnM 5 2 false b_difference
theorem ok_difference (c : Base fa fn ex K mg) : Ok P w K mg base "difference" 3 ["one", "other"] [false, false] false m_difference := mkOk c 11 11 rfl rfl (fun _ _ _ _ _ _ us hl => match us, hl with | [_, _], _ => rfl) fun F =>
  fn_D F sc_difference rfl (by decide) (by decide) (kt := []) (os' := [false, false, false, false, false]) fun cdv A outer s H E hr => (dss_cons (os1 := [false, false, false, false, false])
 (ds_set (tg := .Constant .none 0 ⟨0, 0, 0, 0⟩) (fun h => ps_set (i := 2) sc_difference.nd rfl (by first | exact Or.inl rfl | exact Or.inr rfl) h) (by decide) (by decide) (de_of (do_sortS (fun h => pe_callB (cr_sortM rfl (hr_cls2 hr)) (by rfl) (c.free 57 rfl) (by first | exact boot_sorted | exact PySem.boot_sorted | exact PyProof.Rows.boot_sorted | exact L2.boot_sorted) h) (dS_or (de_call1 (fun h => pe_callTy cr_setDM (by rfl) (c.free 56 rfl) (by first | exact boot_set | exact PySem.boot_set | exact PyProof.Rows.boot_set | exact L2.boot_set) h) setKD_ok setKD_nx (dv_of (de_ix (hr_cls hr) (by intro _ _; rfl) (de_var (pv 0) rfl) (dv_of de_int)))) (de_call1 (fun h => pe_callTy cr_setDM (by rfl) (c.free 56 rfl) (by first | exact boot_set | exact PySem.boot_set | exact PyProof.Rows.boot_set | exact L2.boot_set) h) setKD_ok setKD_nx (dv_of (de_ix (hr_cls hr) (by intro _ _; rfl) (de_var (pv 1) rfl) (dv_of de_int))))))))
 (dss_cons (os1 := [false, false, false, false, false])
 (ds_own0 (ds_setDA (i := 3) (j := 2) rfl (ps_setDc (i := 3) (own := [("name", 4)]) rfl sc_difference.nd rfl rfl (sw_trueD rfl rfl rfl (by decide +kernel)) (di_keysL (E := E) (pv 2) rfl) (blkOk_by (N := N_difference) (sc := defScope (top 16)) (own := [("name", 4)]) (by decide +kernel)) (g := (gName 4)) (fun _ _ _ _ _ => (pg_name (i := 4) sc_difference.nd rfl (by first | exact Or.inl rfl | exact Or.inr rfl))) (fun _ _ _ _ _ => dts_nil) (fun _ _ _ _ _ => (de_var (pv 4) rfl)) (fun _ _ _ _ _ => (dcall (ks := [none, none]) (ok_minus c) rfl hr (by decide) (by rfl) (dc_val (de_get2 (hr_cls hr) (de_ix (hr_cls hr) (by intro _ _; rfl) (de_var (pv 0) rfl) (dv_of de_int)) (de_var (pv 4) rfl) (de_glob (vs := [.int 0, .int 1]) (ds := [.int 0, .int 1]) (by rfl) (c.glo 60 rfl) (tup_NOUGHT c) (fun _ => ⟨_, _, rfl, rfl, ⟨_, _, rfl, rfl, rfl⟩⟩)) ⟨rfl, rfl, rfl, rfl⟩) (dc_val (de_get2 (hr_cls hr) (de_ix (hr_cls hr) (by intro _ _; rfl) (de_var (pv 1) rfl) (dv_of de_int)) (de_var (pv 4) rfl) (de_glob (vs := [.int 0, .int 1]) (ds := [.int 0, .int 1]) (by rfl) (c.glo 60 rfl) (tup_NOUGHT c) (fun _ => ⟨_, _, rfl, rfl, ⟨_, _, rfl, rfl, rfl⟩⟩)) ⟨rfl, rfl, rfl, rfl⟩) dc_nil)) rfl (by decide)))) (ps_setDc (i := 3) (own := [("name", 4)]) rfl sc_difference.nd rfl rfl (sw_trueD rfl rfl rfl (by decide +kernel)) (di_seq (de_var (pv 2) rfl)) (blkOk_by (N := N_difference) (sc := defScope (top 16)) (own := [("name", 4)]) (by decide +kernel)) (g := (gName 4)) (fun _ _ _ _ _ => (pg_name (i := 4) sc_difference.nd rfl (by first | exact Or.inl rfl | exact Or.inr rfl))) (fun _ _ _ _ _ => dts_nil) (fun _ _ _ _ _ => (de_var (pv 4) rfl)) (fun _ _ _ _ _ => (dcall (ks := [none, none]) (ok_minus c) rfl hr (by decide) (by rfl) (dc_val (de_get2 (hr_cls hr) (de_ix (hr_cls hr) (by intro _ _; rfl) (de_var (pv 0) rfl) (dv_of de_int)) (de_var (pv 4) rfl) (de_glob (vs := [.int 0, .int 1]) (ds := [.int 0, .int 1]) (by rfl) (c.glo 60 rfl) (tup_NOUGHT c) (fun _ => ⟨_, _, rfl, rfl, ⟨_, _, rfl, rfl, rfl⟩⟩)) ⟨rfl, rfl, rfl, rfl⟩) (dc_val (de_get2 (hr_cls hr) (de_ix (hr_cls hr) (by intro _ _; rfl) (de_var (pv 1) rfl) (dv_of de_int)) (de_var (pv 4) rfl) (de_glob (vs := [.int 0, .int 1]) (ds := [.int 0, .int 1]) (by rfl) (c.glo 60 rfl) (tup_NOUGHT c) (fun _ => ⟨_, _, rfl, rfl, ⟨_, _, rfl, rfl, rfl⟩⟩)) ⟨rfl, rfl, rfl, rfl⟩) dc_nil)) rfl (by decide)))) (raw_name (by decide) rfl) (by decide) (by decide) (by decide)) (by decide))
 (dss_cons (os1 := [false, false, false, false, false]) (ds_ret rfl (de_tup (da_cons (dcall (ks := [none, none]) (ok_minus c) rfl hr (by decide) (by rfl) (dc_val (de_ix (hr_cls hr) (by intro _ _; rfl) (de_var (pv 0) rfl) (dv_of de_int)) (dc_val (de_ix (hr_cls hr) (by intro _ _; rfl) (de_var (pv 1) rfl) (dv_of de_int)) dc_nil)) rfl (by decide)) (da_cons (de_var (pv 3) rfl) da_nil)))) dss_nil)))
abbrev N_highest : List Str := ["box", "rises", "name"]
theorem sc_highest : FnScope N_highest ["box", "rises"] (defScope (top 17)) := ⟨rfl, rfl, rfl, by decide +kernel, rfl, by decide +kernel, by decide +kernel⟩
def b_highest : SM := (sSeq (sRet (eDCompA [2] 0 (gSet 2) eYes (eVar 2) (eIf (e1 gBl (eCall [none, none] m_less (eCons (eRet (.tup [.int 0, .int 1])) (eCons (eGet2 (eVar 1) (eVar 2) (eRet (.tup [.int 0, .int 1]))) eNil)))) (e2 ixD (e2 ixD (eVar 0) (eVar 2)) (eRet (.int 1))) (e2 ixD (e2 ixD (eVar 0) (eVar 2)) (eRet (.int 0)))))) sNil)
def m_highest : List D → Res (D × List D) := fnM 3 2 false b_highest
theorem ok_highest (c : Base fa fn ex K mg) : Ok P w K mg base "highest" 2 ["box", "rises"] [false, false] false m_highest := mkOk c 12 12 rfl rfl (fun _ _ _ _ _ _ us hl => match us, hl with | [_, _], _ => rfl) fun F =>
  fn_D F sc_highest rfl (by decide) (by decide) (kt := []) (os' := [false, false, false]) fun cdv A outer s H E hr => (dss_cons (os1 := [false, false, false]) (ds_ret rfl (de_of (do_dcA (own := [("name", 2)]) rfl sc_highest.nd (pv 0) rfl (blkOk_by (N := N_highest) (sc := defScope (top 17)) (own := [("name", 2)]) (by decide +kernel)) (gt := (gName 2)) (fun _ _ _ _ _ => (pg_name (i := 2) sc_highest.nd rfl (by first | exact Or.inl rfl | exact Or.inr rfl))) (fun _ _ _ _ _ => dts_nil) (fun _ _ _ _ _ => (de_var (pv 2) rfl)) (fun _ _ _ _ _ => (de_if (dt_val (dcall (ks := [none, none]) (ok_less c) rfl hr (by decide) (by rfl) (dc_val (de_glob (vs := [.int 0, .int 1]) (ds := [.int 0, .int 1]) (by rfl) (c.glo 60 rfl) (tup_NOUGHT c) (fun _ => ⟨_, _, rfl, rfl, ⟨_, _, rfl, rfl, rfl⟩⟩)) (dc_val (de_get2 (hr_cls hr) (de_var (pv 1) rfl) (de_var (pv 2) rfl) (de_glob (vs := [.int 0, .int 1]) (ds := [.int 0, .int 1]) (by rfl) (c.glo 60 rfl) (tup_NOUGHT c) (fun _ => ⟨_, _, rfl, rfl, ⟨_, _, rfl, rfl, rfl⟩⟩)) ⟨rfl, rfl, rfl, rfl⟩) dc_nil)) rfl (by decide))) (de_ix (hr_cls hr) (by intro _ _; rfl) (de_ix (hr_cls hr) (by intro _ _; rfl) (de_var (pv 0) rfl) (dv_var (pv 2))) (dv_of de_int)) (de_ix (hr_cls hr) (by intro _ _; rfl) (de_ix (hr_cls hr) (by intro _ _; rfl) (de_var (pv 0) rfl) (dv_var (pv 2))) (dv_of de_int)))) (raw_name (by decide) rfl) (by decide)))) dss_nil)
abbrev N_lowest_rest : List Str := ["box", "rises", "names", "found", "name", "rise", "place"]
theorem sc_lowest_rest : FnScope N_lowest_rest ["box", "rises", "names"] (defScope (top 18)) := ⟨rfl, rfl, rfl, by decide +kernel, rfl, by decide +kernel, by decide +kernel⟩
def l_lowest_rest_1 : SM := (sSeq (sSet 5 (eGet2 (eVar 1) (eVar 4) (eRet (.tup [.int 0, .int 1]))))
 (sSeq (sSet 6 (eIf (e1 gBl (eCall [none, none] m_less (eCons (eVar 5) (eCons (eRet (.tup [.int 0, .int 1])) eNil)))) (e2 ixD (e2 ixD (eVar 0) (eVar 4)) (eRet (.int 1))) (e2 ixD (e2 ixD (eVar 0) (eVar 4)) (eRet (.int 0)))))
 (sSeq (sDrop (eMth 3 appendD (eCall [none, none] m_times (eCons (eVar 5) (eCons (eCall [none, none] m_frac (eCons (eVar 6) (eCons (eRet (.int 1)) eNil))) eNil)))))
 sNil)))
def b_lowest_rest : SM := (sSeq (sSet 3 (eL gLst eNil))
 (sSeq (forA 2 (gSet 4) l_lowest_rest_1)
 (sSeq (sRet (eCall [none] m_sum_of (eCons (eVar 3) eNil))) sNil)))
def m_lowest_rest : List D → Res (D × List D) := fnM 7 3 false b_lowest_rest
theorem ok_lowest_rest (c : Base fa fn ex K mg) : Ok P w K mg base "lowest_rest" 4 ["box", "rises", "names"] [false, false, false] false m_lowest_rest := mkOk c 13 13 rfl rfl (fun _ _ _ _ _ _ us hl => match us, hl with | [_, _, _], _ => rfl) fun F =>
  fn_D F sc_lowest_rest rfl (by decide) (by decide) (kt := []) (os' := [false, false, false, false, false, false, false]) fun cdv A outer s H E hr => (dss_cons (os1 := [false, false, false, true, false, false, false])
 (ds_setO (tg := .Constant .none 0 ⟨0, 0, 0, 0⟩) (fun h => ps_set (i := 3) sc_lowest_rest.nd rfl (by first | exact Or.inl rfl | exact Or.inr rfl) h) (by decide) (by decide) (do_lst (k := 0) da_nil))
 (dss_cons (os1 := [false, false, false, true, false, false, false])
 (ds_forA (os1 := [false, false, false, true, false, false, false]) PassesOwn.never rfl (pv 2) rfl (dg_name (pg_name (i := 4) sc_lowest_rest.nd rfl (by first | exact Or.inl rfl | exact Or.inr rfl)) (by decide) (by decide))
 (dss_cons (os1 := [false, false, false, true, false, false, false])
 (ds_set (tg := .Constant .none 0 ⟨0, 0, 0, 0⟩) (fun h => ps_set (i := 5) sc_lowest_rest.nd rfl (by first | exact Or.inl rfl | exact Or.inr rfl) h) (by decide) (by decide) (de_get2 (hr_cls hr) (de_var (pv 1) rfl) (de_var (pv 4) rfl) (de_glob (vs := [.int 0, .int 1]) (ds := [.int 0, .int 1]) (by rfl) (c.glo 60 rfl) (tup_NOUGHT c) (fun _ => ⟨_, _, rfl, rfl, ⟨_, _, rfl, rfl, rfl⟩⟩)) ⟨rfl, rfl, rfl, rfl⟩))
 (dss_cons (os1 := [false, false, false, true, false, false, false])
 (ds_set (tg := .Constant .none 0 ⟨0, 0, 0, 0⟩) (fun h => ps_set (i := 6) sc_lowest_rest.nd rfl (by first | exact Or.inl rfl | exact Or.inr rfl) h) (by decide) (by decide) (de_if (dt_val (dcall (ks := [none, none]) (ok_less c) rfl hr (by decide) (by rfl) (dc_val (de_var (pv 5) rfl) (dc_val (de_glob (vs := [.int 0, .int 1]) (ds := [.int 0, .int 1]) (by rfl) (c.glo 60 rfl) (tup_NOUGHT c) (fun _ => ⟨_, _, rfl, rfl, ⟨_, _, rfl, rfl, rfl⟩⟩)) dc_nil)) rfl (by decide))) (de_ix (hr_cls hr) (by intro _ _; rfl) (de_ix (hr_cls hr) (by intro _ _; rfl) (de_var (pv 0) rfl) (dv_var (pv 4))) (dv_of de_int)) (de_ix (hr_cls hr) (by intro _ _; rfl) (de_ix (hr_cls hr) (by intro _ _; rfl) (de_var (pv 0) rfl) (dv_var (pv 4))) (dv_of de_int))))
 (dss_cons (os1 := [false, false, false, true, false, false, false])
 (ds_expr (α := Unit) (fun h => ps_expr h) (de_mth (id := "list.append") rfl (pv 3) (dcall (ks := [none, none]) (ok_times c) rfl hr (by decide) (by rfl) (dc_val (de_var (pv 5) rfl) (dc_val (dcall (ks := [none, none]) (ok_frac c) rfl hr (by decide) (by rfl) (dc_val (de_var (pv 6) rfl) (dc_val de_int dc_nil)) rfl (by decide)) dc_nil)) rfl (by decide)) append_ok (fun h => pe_bm PySem.F.plainAttrs_list PySem.F.slot_list_append PySem.F.type_list_append mt_append (pv 3) h)))
 dss_nil))))
 (dss_fz 3 (by decide) (dss_cons (os1 := [false, false, false, false, false, false, false]) (ds_ret rfl (dcall (ks := [none]) (ok_sum_of c) rfl hr (by decide) (by rfl) (dc_val (de_var (pv 3) rfl) dc_nil) rfl (by decide))) dss_nil))))
abbrev N_first_place : List Str := ["low", "rise", "sofar", "bound"]
theorem sc_first_place : FnScope N_first_place ["low", "rise", "sofar"] (defScope (top 19)) := ⟨rfl, rfl, rfl, by decide +kernel, rfl, by decide +kernel, by decide +kernel⟩
def b_first_place : SM := (sSeq (sIf (e1 gBl (eCall [none, none] m_less (eCons (eCall [none, none] m_plus (eCons (eVar 2) (eCons (eCall [none, none] m_times (eCons (eVar 1) (eCons (eCall [none, none] m_frac (eCons (eVar 0) (eCons (eRet (.int 1)) eNil))) eNil))) eNil))) (eCons (eRet (.tup [.int 0, .int 1])) eNil))))
 (sSeq (sRet (eVar 0)) sNil)
 sNil)
 (sSeq (sSet 3 (eCall [none, none] m_over (eCons (eVar 2) (eCons (eCall [none, none] m_minus (eCons (eRet (.tup [.int 0, .int 1])) (eCons (eVar 1) eNil))) eNil))))
 (sSeq (sRet (e2 addD (e2 fdivD (e2 ixD (eVar 3) (eRet (.int 0))) (e2 ixD (eVar 3) (eRet (.int 1)))) (eRet (.int 1)))) sNil)))
def m_first_place : List D → Res (D × List D) := fnM 4 3 false b_first_place
theorem ok_first_place (c : Base fa fn ex K mg) : Ok P w K mg base "first_place" 3 ["low", "rise", "sofar"] [false, false, false] false m_first_place := mkOk c 14 14 rfl rfl (fun _ _ _ _ _ _ us hl => match us, hl with | [_, _, _], _ => rfl) fun F =>
  fn_D F sc_first_place rfl (by decide) (by decide) (kt := []) (os' := [false, false, false, false]) fun cdv A outer s H E hr => (dss_cons (os1 := [false, false, false, false])
 (ds_if (dt_val (dcall (ks := [none, none]) (ok_less c) rfl hr (by decide) (by rfl) (dc_val (dcall (ks := [none, none]) (ok_plus c) rfl hr (by decide) (by rfl) (dc_val (de_var (pv 2) rfl) (dc_val (dcall (ks := [none, none]) (ok_times c) rfl hr (by decide) (by rfl) (dc_val (de_var (pv 1) rfl) (dc_val (dcall (ks := [none, none]) (ok_frac c) rfl hr (by decide) (by rfl) (dc_val (de_var (pv 0) rfl) (dc_val de_int dc_nil)) rfl (by decide)) dc_nil)) rfl (by decide)) dc_nil)) rfl (by decide)) (dc_val (de_glob (vs := [.int 0, .int 1]) (ds := [.int 0, .int 1]) (by rfl) (c.glo 60 rfl) (tup_NOUGHT c) (fun _ => ⟨_, _, rfl, rfl, ⟨_, _, rfl, rfl, rfl⟩⟩)) dc_nil)) rfl (by decide)))
 (dss_cons (os1 := [false, false, false, false]) (ds_ret rfl (de_var (pv 0) rfl)) dss_nil)
 dss_nil)
 (dss_cons (os1 := [false, false, false, false])
 (ds_set (tg := .Constant .none 0 ⟨0, 0, 0, 0⟩) (fun h => ps_set (i := 3) sc_first_place.nd rfl (by first | exact Or.inl rfl | exact Or.inr rfl) h) (by decide) (by decide) (dcall (ks := [none, none]) (ok_over c) rfl hr (by decide) (by rfl) (dc_val (de_var (pv 2) rfl) (dc_val (dcall (ks := [none, none]) (ok_minus c) rfl hr (by decide) (by rfl) (dc_val (de_glob (vs := [.int 0, .int 1]) (ds := [.int 0, .int 1]) (by rfl) (c.glo 60 rfl) (tup_NOUGHT c) (fun _ => ⟨_, _, rfl, rfl, ⟨_, _, rfl, rfl, rfl⟩⟩)) (dc_val (de_var (pv 1) rfl) dc_nil)) rfl (by decide)) dc_nil)) rfl (by decide)))
 (dss_cons (os1 := [false, false, false, false]) (ds_ret rfl (de_op op_add4 addD_ok addD_nx (de_op op_fdivA fdivD_ok fdivD_nx (de_ix (hr_cls hr) (by intro _ _; rfl) (de_var (pv 3) rfl) (dv_of de_int)) (dv_of (de_ix (hr_cls hr) (by intro _ _; rfl) (de_var (pv 3) rfl) (dv_of de_int)))) (dv_of de_int))) dss_nil)))
abbrev N_first_below : List Str := ["box", "base", "rises", "names", "found", "at", "name", "rise", "sofar"]
theorem sc_first_below : FnScope N_first_below ["box", "base", "rises"] (defScope (top 20)) := ⟨rfl, rfl, rfl, by decide +kernel, rfl, by decide +kernel, by decide +kernel⟩
def l_first_below_1 : SM := (sSeq (sSet 7 (eGet2 (eVar 2) (eVar 6) (eRet (.tup [.int 0, .int 1]))))
 (sSeq (sSet 8 (eCall [none, none] m_plus (eCons (eVar 1) (eCons (eCall [none, none, none] m_lowest_rest (eCons (eVar 0) (eCons (eVar 2) (eCons (eSl slLD (eVar 3) (e1 gI (e2 addD (eVar 5) (eRet (.int 1)))) (eRet none)) eNil)))) eNil))))
 (sSeq (sPut 4 setD1 (eCall [none, none, none] m_first_place (eCons (e2 ixD (e2 ixD (eVar 0) (eVar 6)) (eRet (.int 0))) (eCons (eVar 7) (eCons (eVar 8) eNil)))) (eVar 6))
 (sSeq (sSet 1 (eCall [none, none] m_plus (eCons (eVar 1) (eCons (eCall [none, none] m_times (eCons (eVar 7) (eCons (eCall [none, none] m_frac (eCons (e2N ixD 4 (eVar 6)) (eCons (eRet (.int 1)) eNil))) eNil))) eNil))))
 sNil))))
def b_first_below : SM := (sSeq (sSet 3 (e1 sortedD (eVar 0)))
 (sSeq (sIf (eNot (e1 gBl (eCall [none, none] m_less (eCons (eCall [none, none] m_plus (eCons (eVar 1) (eCons (eCall [none, none, none] m_lowest_rest (eCons (eVar 0) (eCons (eVar 2) (eCons (eVar 3) eNil)))) eNil))) (eCons (eRet (.tup [.int 0, .int 1])) eNil)))))
 (sSeq (sRet (eRet .non)) sNil)
 sNil)
 (sSeq (sSet 4 (eRet (.dic false [])))
 (sSeq (sFor (e1 gEnum (eVar 3)) (gTupT 2 (gsCons (gSet 5) (gsCons (gSet 6) gsNil))) l_first_below_1)
 (sSeq (sRet (eVar 4)) sNil)))))
def m_first_below : List D → Res (D × List D) := fnM 9 3 false b_first_below
theorem ok_first_below (c : Base fa fn ex K mg) : Ok P w K mg base "first_below" 5 ["box", "base", "rises"] [false, false, false] false m_first_below := mkOk c 15 15 rfl rfl (fun _ _ _ _ _ _ us hl => match us, hl with | [_, _, _], _ => rfl) fun F =>
  fn_D F sc_first_below rfl (by decide) (by decide) (kt := []) (os' := [false, false, false, false, false, false, false, false, false]) fun cdv A outer s H E hr => (dss_cons (os1 := [false, false, false, false, false, false, false, false, false])
 (ds_set (tg := .Constant .none 0 ⟨0, 0, 0, 0⟩) (fun h => ps_set (i := 3) sc_first_below.nd rfl (by first | exact Or.inl rfl | exact Or.inr rfl) h) (by decide) (by decide) (de_of (de_call1 (fun h => pe_callB (call_sortX rfl (hr_cls2 hr)) (by rfl) (c.free 57 rfl) (by first | exact boot_sorted | exact PySem.boot_sorted | exact PyProof.Rows.boot_sorted | exact L2.boot_sorted) h) sortedD_ok sortedD_nx (dv_var (pv 0)))))
 (dss_cons (os1 := [false, false, false, false, false, false, false, false, false])
 (ds_if (dt_not (dt_val (dcall (ks := [none, none]) (ok_less c) rfl hr (by decide) (by rfl) (dc_val (dcall (ks := [none, none]) (ok_plus c) rfl hr (by decide) (by rfl) (dc_val (de_var (pv 1) rfl) (dc_val (dcall (ks := [none, none, none]) (ok_lowest_rest c) rfl hr (by decide) (by rfl) (dc_val (de_var (pv 0) rfl) (dc_val (de_var (pv 2) rfl) (dc_val (de_var (pv 3) rfl) dc_nil))) rfl (by decide)) dc_nil)) rfl (by decide)) (dc_val (de_glob (vs := [.int 0, .int 1]) (ds := [.int 0, .int 1]) (by rfl) (c.glo 60 rfl) (tup_NOUGHT c) (fun _ => ⟨_, _, rfl, rfl, ⟨_, _, rfl, rfl, rfl⟩⟩)) dc_nil)) rfl (by decide))))
 (dss_cons (os1 := [false, false, false, false, false, false, false, false, false]) (ds_ret rfl de_non) dss_nil)
 dss_nil)
 (dss_cons (os1 := [false, false, false, false, true, false, false, false, false])
 (ds_setO (tg := .Constant .none 0 ⟨0, 0, 0, 0⟩) (fun h => ps_set (i := 4) sc_first_below.nd rfl (by first | exact Or.inl rfl | exact Or.inr rfl) h) (by decide) (by decide) do_newK)
 (dss_cons (os1 := [false, false, false, false, true, false, false, false, false])
 (ds_for (os1 := [false, false, false, false, true, false, false, false, false]) PassesOwn.never rfl (di_enum (fun h => pi_enum (by rfl) (c.free 48 rfl) h) (de_var (pv 3) rfl)) (dg_tup rfl (dgs_cons (os1 := [false, false, false, false, true, false, false, false, false]) (dg_name (pg_name (i := 5) sc_first_below.nd rfl (by first | exact Or.inl rfl | exact Or.inr rfl)) (by decide) (by decide)) (dgs_cons (os1 := [false, false, false, false, true, false, false, false, false]) (dg_name (pg_name (i := 6) sc_first_below.nd rfl (by first | exact Or.inl rfl | exact Or.inr rfl)) (by decide) (by decide)) dgs_nil)))
 (dss_cons (os1 := [false, false, false, false, true, false, false, false, false])
 (ds_set (tg := .Constant .none 0 ⟨0, 0, 0, 0⟩) (fun h => ps_set (i := 7) sc_first_below.nd rfl (by first | exact Or.inl rfl | exact Or.inr rfl) h) (by decide) (by decide) (de_get2 (hr_cls hr) (de_var (pv 2) rfl) (de_var (pv 6) rfl) (de_glob (vs := [.int 0, .int 1]) (ds := [.int 0, .int 1]) (by rfl) (c.glo 60 rfl) (tup_NOUGHT c) (fun _ => ⟨_, _, rfl, rfl, ⟨_, _, rfl, rfl, rfl⟩⟩)) ⟨rfl, rfl, rfl, rfl⟩))
 (dss_cons (os1 := [false, false, false, false, true, false, false, false, false])
 (ds_set (tg := .Constant .none 0 ⟨0, 0, 0, 0⟩) (fun h => ps_set (i := 8) sc_first_below.nd rfl (by first | exact Or.inl rfl | exact Or.inr rfl) h) (by decide) (by decide) (dcall (ks := [none, none]) (ok_plus c) rfl hr (by decide) (by rfl) (dc_val (de_var (pv 1) rfl) (dc_val (dcall (ks := [none, none, none]) (ok_lowest_rest c) rfl hr (by decide) (by rfl) (dc_val (de_var (pv 0) rfl) (dc_val (de_var (pv 2) rfl) (dc_val (de_of (do_slice (de_var (pv 3) rfl) (dp_some (dv_of (de_op op_add4 addD_ok addD_nx (de_var (pv 5) rfl) (dv_of de_int)))) dp_none)) dc_nil))) rfl (by decide)) dc_nil)) rfl (by decide)))
 (dss_cons (os1 := [false, false, false, false, true, false, false, false, false])
 (ds_put rfl (pv 4) (dcall (ks := [none, none, none]) (ok_first_place c) rfl hr (by decide) (by rfl) (dc_val (de_ix (hr_cls hr) (by intro _ _; rfl) (de_ix (hr_cls hr) (by intro _ _; rfl) (de_var (pv 0) rfl) (dv_var (pv 6))) (dv_of de_int)) (dc_val (de_var (pv 7) rfl) (dc_val (de_var (pv 8) rfl) dc_nil))) rfl (by decide)) (dv_var (pv 6)) (hr_cls hr) (fun h g => ps_asg h g))
 (dss_cons (os1 := [false, false, false, false, true, false, false, false, false])
 (ds_set (tg := .Constant .none 0 ⟨0, 0, 0, 0⟩) (fun h => ps_set (i := 1) sc_first_below.nd rfl (by first | exact Or.inl rfl | exact Or.inr rfl) h) (by decide) (by decide) (dcall (ks := [none, none]) (ok_plus c) rfl hr (by decide) (by rfl) (dc_val (de_var (pv 1) rfl) (dc_val (dcall (ks := [none, none]) (ok_times c) rfl hr (by decide) (by rfl) (dc_val (de_var (pv 7) rfl) (dc_val (dcall (ks := [none, none]) (ok_frac c) rfl hr (by decide) (by rfl) (dc_val (de_ixN (hr_cls hr) (by intro _ _; rfl) (pv 4) (dv_var (pv 6))) (dc_val de_int dc_nil)) rfl (by decide)) dc_nil)) rfl (by decide)) dc_nil)) rfl (by decide)))
 dss_nil)))))
 (dss_fz 4 (by decide) (dss_cons (os1 := [false, false, false, false, false, false, false, false, false]) (ds_ret rfl (de_var (pv 4) rfl)) dss_nil))))))
abbrev N_stepped : List Str := ["box", "name", "low", "high"]
theorem sc_stepped : FnScope N_stepped ["box", "name"] (defScope (top 21)) := ⟨rfl, rfl, rfl, by decide +kernel, rfl, by decide +kernel, by decide +kernel⟩
def b_stepped : SM := (sSeq (sAsg (e2 ixD (eVar 0) (eVar 1)) (gTupT 2 (gsCons (gSet 2) (gsCons (gSet 3) gsNil))))
 (sSeq (sIf (e2 eqD (eVar 3) (eRet (.int 0)))
 (sSeq (sRet (eRet .non)) sNil)
 sNil)
 (sSeq (sRet (eStar (eVar 0) (eVar 1) (eL gTup (eCons (e2 maxD (eRet (.int 0)) (e2 subD (eVar 2) (eRet (.int 1)))) (eCons (e2 subD (eVar 3) (eRet (.int 1))) eNil))))) sNil)))
def m_stepped : List D → Res (D × List D) := fnM 4 2 false b_stepped
theorem ok_stepped (c : Base fa fn ex K mg) : Ok P w K mg base "stepped" 1 ["box", "name"] [false, false] false m_stepped := mkOk c 16 16 rfl rfl (fun _ _ _ _ _ _ us hl => match us, hl with | [_, _], _ => rfl) fun F =>
  fn_D F sc_stepped rfl (by decide) (by decide) (kt := []) (os' := [false, false, false, false]) fun cdv A outer s H E hr => (dss_cons (os1 := [false, false, false, false])
 (ds_asg (fun h g => ps_asg h g) (de_ix (hr_cls hr) (by intro _ _; rfl) (de_var (pv 0) rfl) (dv_var (pv 1))) (dg_tup rfl (dgs_cons (os1 := [false, false, false, false]) (dg_name (pg_name (i := 2) sc_stepped.nd rfl (by first | exact Or.inl rfl | exact Or.inr rfl)) (by decide) (by decide)) (dgs_cons (os1 := [false, false, false, false]) (dg_name (pg_name (i := 3) sc_stepped.nd rfl (by first | exact Or.inl rfl | exact Or.inr rfl)) (by decide) (by decide)) dgs_nil))))
 (dss_cons (os1 := [false, false, false, false])
 (ds_if (dt_cmp (op_eqD (hr_cls2 hr)) eqD_ok eqD_nx (nomark _) (de_var (pv 3) rfl) (dv_of de_int))
 (dss_cons (os1 := [false, false, false, false]) (ds_ret rfl de_non) dss_nil)
 dss_nil)
 (dss_cons (os1 := [false, false, false, false]) (ds_ret rfl (de_of (do_upd (de_var (pv 0) rfl) (de_var (pv 1) rfl) (de_tup (da_cons (de_call2 (fun h => pe_callB (call_max2 rfl) (by rfl) (c.free 53 rfl) (by first | exact boot_max | exact PySem.boot_max | exact PyProof.Rows.boot_max | exact L2.boot_max) h) maxD_ok maxD_nx de_int (dv_of (de_op op_sub subD_ok subD_nx (de_var (pv 2) rfl) (dv_of de_int)))) (da_cons (de_op op_sub subD_ok subD_nx (de_var (pv 3) rfl) (dv_of de_int)) da_nil)))))) dss_nil)))
abbrev N_first_fall : List Str := ["space", "first", "second", "name", "into", "box", "base", "rises"]
theorem sc_first_fall : FnScope N_first_fall ["space", "first", "second", "name"] (defScope (top 22)) := ⟨rfl, rfl, rfl, by decide +kernel, rfl, by decide +kernel, by decide +kernel⟩
def b_first_fall : SM := (sSeq (sSet 4 (eCall [none, none] m_stepped (eCons (eCall [none, none] m_whole (eCons (eVar 0) (eCons (e2 ixD (eVar 2) (eRet (.int 0))) eNil))) (eCons (eVar 3) eNil))))
 (sSeq (sSet 5 (eIf (e2 isC (eVar 4) (eRet .non)) (eRet .non) (eCall [none, none, none] m_common (eCons (eVar 0) (eCons (e2 ixD (eVar 1) (eRet (.int 0))) (eCons (eVar 4) eNil))))))
 (sSeq (sIf (e2 isC (eVar 5) (eRet .non))
 (sSeq (sRet (eRet .non)) sNil)
 sNil)
 (sSeq (sAsg (eCall [none, none] m_difference (eCons (eVar 2) (eCons (eVar 1) eNil))) (gTupT 2 (gsCons (gSet 6) (gsCons (gSet 7) gsNil))))
 (sSeq (sRet (eCall [none, none, none] m_first_below (eCons (eVar 5) (eCons (eCall [none, none] m_plus (eCons (eVar 6) (eCons (eGet2 (e2 ixD (eVar 2) (eRet (.int 2))) (eVar 3) (eRet (.tup [.int 0, .int 1]))) eNil))) (eCons (eVar 7) eNil))))) sNil)))))
def m_first_fall : List D → Res (D × List D) := fnM 8 4 false b_first_fall
theorem ok_first_fall (c : Base fa fn ex K mg) : Ok P w K mg base "first_fall" 6 ["space", "first", "second", "name"] [false, false, false, false] false m_first_fall := mkOk c 17 17 rfl rfl (fun _ _ _ _ _ _ us hl => match us, hl with | [_, _, _, _], _ => rfl) fun F =>
  fn_D F sc_first_fall rfl (by decide) (by decide) (kt := []) (os' := [false, false, false, false, false, false, false, false]) fun cdv A outer s H E hr => (dss_cons (os1 := [false, false, false, false, false, false, false, false])
 (ds_set (tg := .Constant .none 0 ⟨0, 0, 0, 0⟩) (fun h => ps_set (i := 4) sc_first_fall.nd rfl (by first | exact Or.inl rfl | exact Or.inr rfl) h) (by decide) (by decide) (dcall (ks := [none, none]) (ok_stepped c) rfl hr (by decide) (by rfl) (dc_val (dcall (ks := [none, none]) (ok_whole c) rfl hr (by decide) (by rfl) (dc_val (de_var (pv 0) rfl) (dc_val (de_ix (hr_cls hr) (by intro _ _; rfl) (de_var (pv 2) rfl) (dv_of de_int)) dc_nil)) rfl (by decide)) (dc_val (de_var (pv 3) rfl) dc_nil)) rfl (by decide)))
 (dss_cons (os1 := [false, false, false, false, false, false, false, false])
 (ds_set (tg := .Constant .none 0 ⟨0, 0, 0, 0⟩) (fun h => ps_set (i := 5) sc_first_fall.nd rfl (by first | exact Or.inl rfl | exact Or.inr rfl) h) (by decide) (by decide) (de_if (dt_cmp op_isC isC_ok isC_nx (nomark _) (de_var (pv 4) rfl) (dv_of de_non)) de_non (dcall (ks := [none, none, none]) (ok_common c) rfl hr (by decide) (by rfl) (dc_val (de_var (pv 0) rfl) (dc_val (de_ix (hr_cls hr) (by intro _ _; rfl) (de_var (pv 1) rfl) (dv_of de_int)) (dc_val (de_var (pv 4) rfl) dc_nil))) rfl (by decide))))
 (dss_cons (os1 := [false, false, false, false, false, false, false, false])
 (ds_if (dt_cmp op_isC isC_ok isC_nx (nomark _) (de_var (pv 5) rfl) (dv_of de_non))
 (dss_cons (os1 := [false, false, false, false, false, false, false, false]) (ds_ret rfl de_non) dss_nil)
 dss_nil)
 (dss_cons (os1 := [false, false, false, false, false, false, false, false])
 (ds_asg (fun h g => ps_asg h g) (dcall (ks := [none, none]) (ok_difference c) rfl hr (by decide) (by rfl) (dc_val (de_var (pv 2) rfl) (dc_val (de_var (pv 1) rfl) dc_nil)) rfl (by decide)) (dg_tup rfl (dgs_cons (os1 := [false, false, false, false, false, false, false, false]) (dg_name (pg_name (i := 6) sc_first_fall.nd rfl (by first | exact Or.inl rfl | exact Or.inr rfl)) (by decide) (by decide)) (dgs_cons (os1 := [false, false, false, false, false, false, false, false]) (dg_name (pg_name (i := 7) sc_first_fall.nd rfl (by first | exact Or.inl rfl | exact Or.inr rfl)) (by decide) (by decide)) dgs_nil))))
 (dss_cons (os1 := [false, false, false, false, false, false, false, false]) (ds_ret rfl (dcall (ks := [none, none, none]) (ok_first_below c) rfl hr (by decide) (by rfl) (dc_val (de_var (pv 5) rfl) (dc_val (dcall (ks := [none, none]) (ok_plus c) rfl hr (by decide) (by rfl) (dc_val (de_var (pv 6) rfl) (dc_val (de_get2 (hr_cls hr) (de_ix (hr_cls hr) (by intro _ _; rfl) (de_var (pv 2) rfl) (dv_of de_int)) (de_var (pv 3) rfl) (de_glob (vs := [.int 0, .int 1]) (ds := [.int 0, .int 1]) (by rfl) (c.glo 60 rfl) (tup_NOUGHT c) (fun _ => ⟨_, _, rfl, rfl, ⟨_, _, rfl, rfl, rfl⟩⟩)) ⟨rfl, rfl, rfl, rfl⟩) dc_nil)) rfl (by decide)) (dc_val (de_var (pv 7) rfl) dc_nil))) rfl (by decide))) dss_nil)))))
abbrev N_falls : List Str := ["space", "entries", "found", "name", "_", "first", "second", "basket"]
theorem sc_falls : FnScope N_falls ["space", "entries"] (defScope (top 23)) := ⟨rfl, rfl, rfl, by decide +kernel, rfl, by decide +kernel, by decide +kernel⟩
def l_falls_1 : SM := (sSeq (sSet 7 (eCall [none, none, none, none] m_first_fall (eCons (eVar 0) (eCons (eVar 5) (eCons (eVar 6) (eCons (eVar 3) eNil))))))
 (sSeq (sIf (eAnd (e2 isNotC (eVar 7) (eRet .non)) (eOr (e2 isC (eVar 2) (eRet .non)) (e2 (ltP fun p q => PySem.W.dataLt p q) (eCall [none] m_in_row (eCons (eVar 7) eNil)) (eCall [none] m_in_row (eCons (e2 ixD (eVar 2) (eRet (.int 0))) eNil)))))
 (sSeq (sSet 2 (eL gTup (eCons (eVar 7) (eCons (eVar 3) eNil))))
 sNil)
 sNil)
 sNil))
def l_falls_2 : SM := (sSeq (forA 1 (gSet 6) l_falls_1)
 sNil)
def l_falls_3 : SM := (sSeq (forA 1 (gSet 5) l_falls_2)
 sNil)
def b_falls : SM := (sSeq (sSet 2 (eRet .non))
 (sSeq (sFor (e1 gItems (e1 sortedD (eVar 0))) (gTupT 2 (gsCons (gSet 3) (gsCons (gSet 4) gsNil))) l_falls_3)
 (sSeq (sRet (eVar 2)) sNil)))
def m_falls : List D → Res (D × List D) := fnM 8 2 false b_falls
theorem ok_falls (c : Base fa fn ex K mg) : Ok P w K mg base "falls" 7 ["space", "entries"] [false, false] false m_falls := mkOk c 18 18 rfl rfl (fun _ _ _ _ _ _ us hl => match us, hl with | [_, _], _ => rfl) fun F =>
  fn_D F sc_falls rfl (by decide) (by decide) (kt := []) (os' := [false, false, false, false, false, false, false, false]) fun cdv A outer s H E hr => (dss_cons (os1 := [false, false, false, false, false, false, false, false])
 (ds_set (tg := .Constant .none 0 ⟨0, 0, 0, 0⟩) (fun h => ps_set (i := 2) sc_falls.nd rfl (by first | exact Or.inl rfl | exact Or.inr rfl) h) (by decide) (by decide) de_non)
 (dss_cons (os1 := [false, false, false, false, false, false, false, false])
 (ds_for (os1 := [false, false, false, false, false, false, false, false]) PassesOwn.never rfl (di_seq (de_of (de_call1 (fun h => pe_callB (call_sortX rfl (hr_cls2 hr)) (by rfl) (c.free 57 rfl) (by first | exact boot_sorted | exact PySem.boot_sorted | exact PyProof.Rows.boot_sorted | exact L2.boot_sorted) h) sortedD_ok sortedD_nx (dv_var (pv 0))))) (dg_tup rfl (dgs_cons (os1 := [false, false, false, false, false, false, false, false]) (dg_name (pg_name (i := 3) sc_falls.nd rfl (by first | exact Or.inl rfl | exact Or.inr rfl)) (by decide) (by decide)) (dgs_cons (os1 := [false, false, false, false, false, false, false, false]) (dg_name (pg_name (i := 4) sc_falls.nd rfl (by first | exact Or.inl rfl | exact Or.inr rfl)) (by decide) (by decide)) dgs_nil)))
 (dss_cons (os1 := [false, false, false, false, false, false, false, false])
 (ds_forA (os1 := [false, false, false, false, false, false, false, false]) PassesOwn.never rfl (pv 1) rfl (dg_name (pg_name (i := 5) sc_falls.nd rfl (by first | exact Or.inl rfl | exact Or.inr rfl)) (by decide) (by decide))
 (dss_cons (os1 := [false, false, false, false, false, false, false, false])
 (ds_forA (os1 := [false, false, false, false, false, false, false, false]) PassesOwn.never rfl (pv 1) rfl (dg_name (pg_name (i := 6) sc_falls.nd rfl (by first | exact Or.inl rfl | exact Or.inr rfl)) (by decide) (by decide))
 (dss_cons (os1 := [false, false, false, false, false, false, false, false])
 (ds_set (tg := .Constant .none 0 ⟨0, 0, 0, 0⟩) (fun h => ps_set (i := 7) sc_falls.nd rfl (by first | exact Or.inl rfl | exact Or.inr rfl) h) (by decide) (by decide) (dcall (ks := [none, none, none, none]) (ok_first_fall c) rfl hr (by decide) (by rfl) (dc_val (de_var (pv 0) rfl) (dc_val (de_var (pv 5) rfl) (dc_val (de_var (pv 6) rfl) (dc_val (de_var (pv 3) rfl) dc_nil)))) rfl (by decide)))
 (dss_cons (os1 := [false, false, false, false, false, false, false, false])
 (ds_if (PW.pt (dw_and (dt_cmp op_isNotC isNotC_ok isNotC_nx (nomark _) (de_var (pv 7) rfl) (dv_of de_non)) (pw_and1 (PW.pt (dw_or (dt_cmp op_isC isC_ok isC_nx (nomark _) (de_var (pv 2) rfl) (dv_of de_non)) (pw_or1 (dt_cmp (op_ltP (hr_cls2 hr)) (ltP_ok _) (ltP_nx _) (nomark _) (dcall (ks := [none]) (ok_in_row c) rfl hr (by decide) (by rfl) (dc_val (de_var (pv 7) rfl) dc_nil) rfl (by decide)) (dv_of (dcall (ks := [none]) (ok_in_row c) rfl hr (by decide) (by rfl) (dc_val (de_ix (hr_cls hr) (by intro _ _; rfl) (de_var (pv 2) rfl) (dv_of de_int)) dc_nil) rfl (by decide))))))))))
 (dss_cons (os1 := [false, false, false, false, false, false, false, false])
 (ds_set (tg := .Constant .none 0 ⟨0, 0, 0, 0⟩) (fun h => ps_set (i := 2) sc_falls.nd rfl (by first | exact Or.inl rfl | exact Or.inr rfl) h) (by decide) (by decide) (de_tup (da_cons (de_var (pv 7) rfl) (da_cons (de_var (pv 3) rfl) da_nil))))
 dss_nil)
 dss_nil)
 dss_nil)))
 dss_nil))
 dss_nil))
 (dss_cons (os1 := [false, false, false, false, false, false, false, false]) (ds_ret rfl (de_var (pv 2) rfl)) dss_nil)))
abbrev N_cheapest_cover : List Str := ["space", "entries", "need", "found", "from_need", "name", "top", "box", "base", "rises", "shared", "basket", "number"]
theorem sc_cheapest_cover : FnScope N_cheapest_cover ["space", "entries", "need"] (defScope (top 25)) := ⟨rfl, rfl, rfl, by decide +kernel, rfl, by decide +kernel, by decide +kernel⟩
def l_cheapest_cover_1 : SM := (sSeq (sSet 10 (eCall [none, none, none] m_common (eCons (eVar 0) (eCons (eVar 7) (eCons (eVar 4) eNil)))))
 (sSeq (sIf (e2 isNotC (eVar 10) (eRet .non))
 (sSeq (sSet 11 (eCall [none, none] m_highest (eCons (eVar 10) (eCons (eDCompA [5] 9 (gSet 5) eYes (eVar 5) (eCall [none, none] m_minus (eCons (eRet (.tup [.int 0, .int 1])) (eCons (e2 ixD (eVar 9) (eVar 5)) eNil)))) eNil))))
 (sSeq (sSet 12 (eCall [none, none, none] m_risen (eCons (eVar 8) (eCons (eVar 9) (eCons (eVar 11) eNil)))))
 (sSeq (sIf (eOr (e2 isC (eVar 3) (eRet .non)) (eOr (e1 gBl (eCall [none, none] m_less (eCons (eVar 12) (eCons (e2 ixD (eVar 3) (eRet (.int 0))) eNil)))) (eAnd (e2 eqD (eVar 12) (e2 ixD (eVar 3) (eRet (.int 0)))) (e2 (ltP fun p q => PySem.W.dataLt p q) (eCall [none] m_in_row (eCons (eVar 11) eNil)) (eCall [none] m_in_row (eCons (e2 ixD (eVar 3) (eRet (.int 1))) eNil))))))
 (sSeq (sSet 3 (eL gTup (eCons (eVar 12) (eCons (eVar 11) eNil))))
 sNil)
 sNil)
 sNil)))
 sNil)
 sNil))
def b_cheapest_cover : SM := (sSeq (sSet 3 (eRet .non))
 (sSeq (sSet 4 (eDCompA [5, 6] 0 (gTupT 2 (gsCons (gSet 5) (gsCons (gSet 6) gsNil))) eYes (eVar 5) (eL gTup (eCons (e2 ixD (eVar 2) (eVar 5)) (eCons (eVar 6) eNil)))))
 (sSeq (forA 1 (gTupT 3 (gsCons (gSet 7) (gsCons (gSet 8) (gsCons (gSet 9) gsNil)))) l_cheapest_cover_1)
 (sSeq (sRet (eVar 3)) sNil))))
def m_cheapest_cover : List D → Res (D × List D) := fnM 13 3 false b_cheapest_cover
theorem ok_cheapest_cover (c : Base fa fn ex K mg) : Ok P w K mg base "cheapest_cover" 5 ["space", "entries", "need"] [false, false, false] false m_cheapest_cover := mkOk c 19 19 rfl rfl (fun _ _ _ _ _ _ us hl => match us, hl with | [_, _, _], _ => rfl) fun F =>
  fn_D F sc_cheapest_cover rfl (by decide) (by decide) (kt := []) (os' := [false, false, false, false, false, false, false, false, false, false, false, false, false]) fun cdv A outer s H E hr => (dss_cons (os1 := [false, false, false, false, false, false, false, false, false, false, false, false, false])
 (ds_set (tg := .Constant .none 0 ⟨0, 0, 0, 0⟩) (fun h => ps_set (i := 3) sc_cheapest_cover.nd rfl (by first | exact Or.inl rfl | exact Or.inr rfl) h) (by decide) (by decide) de_non)
 (dss_cons (os1 := [false, false, false, false, false, false, false, false, false, false, false, false, false])
 (ds_own0 (ds_setDA (i := 4) (j := 0) rfl (ps_setDc (i := 4) (own := [("name", 5), ("top", 6)]) rfl sc_cheapest_cover.nd rfl rfl (sw_trueD rfl rfl rfl (by decide +kernel)) (di_keysL (E := E) (pv 0) rfl) (blkOk_by (N := N_cheapest_cover) (sc := defScope (top 25)) (own := [("name", 5), ("top", 6)]) (by decide +kernel)) (g := (L2.gTup _ 2 (gCons (gName 5) (gCons (gName 6) gNil)))) (fun _ _ _ _ _ => (pg_tup rfl (pgs_cons (pg_name (i := 5) sc_cheapest_cover.nd rfl (by first | exact Or.inl rfl | exact Or.inr rfl)) (pgs_cons (pg_name (i := 6) sc_cheapest_cover.nd rfl (by first | exact Or.inl rfl | exact Or.inr rfl)) pgs_nil)))) (fun _ _ _ _ _ => dts_nil) (fun _ _ _ _ _ => (de_var (pv 5) rfl)) (fun _ _ _ _ _ => (de_tup (da_cons (de_ix (hr_cls hr) (by intro _ _; rfl) (de_var (pv 2) rfl) (dv_var (pv 5))) (da_cons (de_var (pv 6) rfl) da_nil))))) (ps_setDc (i := 4) (own := [("name", 5), ("top", 6)]) rfl sc_cheapest_cover.nd rfl rfl (sw_trueD rfl rfl rfl (by decide +kernel)) (di_seq (de_var (pv 0) rfl)) (blkOk_by (N := N_cheapest_cover) (sc := defScope (top 25)) (own := [("name", 5), ("top", 6)]) (by decide +kernel)) (g := (L2.gTup _ 2 (gCons (gName 5) (gCons (gName 6) gNil)))) (fun _ _ _ _ _ => (pg_tup rfl (pgs_cons (pg_name (i := 5) sc_cheapest_cover.nd rfl (by first | exact Or.inl rfl | exact Or.inr rfl)) (pgs_cons (pg_name (i := 6) sc_cheapest_cover.nd rfl (by first | exact Or.inl rfl | exact Or.inr rfl)) pgs_nil)))) (fun _ _ _ _ _ => dts_nil) (fun _ _ _ _ _ => (de_var (pv 5) rfl)) (fun _ _ _ _ _ => (de_tup (da_cons (de_ix (hr_cls hr) (by intro _ _; rfl) (de_var (pv 2) rfl) (dv_var (pv 5))) (da_cons (de_var (pv 6) rfl) da_nil))))) (raw_tup (raws_cons (raw_name (by decide) rfl) (raws_cons (raw_name (by decide) rfl) raws_nil))) (by decide) (by decide) (by decide)) (by decide))
 (dss_cons (os1 := [false, false, false, false, false, false, false, false, false, false, false, false, false])
 (ds_forA (os1 := [false, false, false, false, false, false, false, false, false, false, false, false, false]) PassesOwn.never rfl (pv 1) rfl (dg_tup rfl (dgs_cons (os1 := [false, false, false, false, false, false, false, false, false, false, false, false, false]) (dg_name (pg_name (i := 7) sc_cheapest_cover.nd rfl (by first | exact Or.inl rfl | exact Or.inr rfl)) (by decide) (by decide)) (dgs_cons (os1 := [false, false, false, false, false, false, false, false, false, false, false, false, false]) (dg_name (pg_name (i := 8) sc_cheapest_cover.nd rfl (by first | exact Or.inl rfl | exact Or.inr rfl)) (by decide) (by decide)) (dgs_cons (os1 := [false, false, false, false, false, false, false, false, false, false, false, false, false]) (dg_name (pg_name (i := 9) sc_cheapest_cover.nd rfl (by first | exact Or.inl rfl | exact Or.inr rfl)) (by decide) (by decide)) dgs_nil))))
 (dss_cons (os1 := [false, false, false, false, false, false, false, false, false, false, false, false, false])
 (ds_set (tg := .Constant .none 0 ⟨0, 0, 0, 0⟩) (fun h => ps_set (i := 10) sc_cheapest_cover.nd rfl (by first | exact Or.inl rfl | exact Or.inr rfl) h) (by decide) (by decide) (dcall (ks := [none, none, none]) (ok_common c) rfl hr (by decide) (by rfl) (dc_val (de_var (pv 0) rfl) (dc_val (de_var (pv 7) rfl) (dc_val (de_var (pv 4) rfl) dc_nil))) rfl (by decide)))
 (dss_cons (os1 := [false, false, false, false, false, false, false, false, false, false, false, false, false])
 (ds_if (dt_cmp op_isNotC isNotC_ok isNotC_nx (nomark _) (de_var (pv 10) rfl) (dv_of de_non))
 (dss_cons (os1 := [false, false, false, false, false, false, false, false, false, false, false, false, false])
 (ds_set (tg := .Constant .none 0 ⟨0, 0, 0, 0⟩) (fun h => ps_set (i := 11) sc_cheapest_cover.nd rfl (by first | exact Or.inl rfl | exact Or.inr rfl) h) (by decide) (by decide) (dcall (ks := [none, none]) (ok_highest c) rfl hr (by decide) (by rfl) (dc_val (de_var (pv 10) rfl) (dc_val (de_of (do_dcA (own := [("name", 5)]) rfl sc_cheapest_cover.nd (pv 9) rfl (blkOk_by (N := N_cheapest_cover) (sc := defScope (top 25)) (own := [("name", 5)]) (by decide +kernel)) (gt := (gName 5)) (fun _ _ _ _ _ => (pg_name (i := 5) sc_cheapest_cover.nd rfl (by first | exact Or.inl rfl | exact Or.inr rfl))) (fun _ _ _ _ _ => dts_nil) (fun _ _ _ _ _ => (de_var (pv 5) rfl)) (fun _ _ _ _ _ => (dcall (ks := [none, none]) (ok_minus c) rfl hr (by decide) (by rfl) (dc_val (de_glob (vs := [.int 0, .int 1]) (ds := [.int 0, .int 1]) (by rfl) (c.glo 60 rfl) (tup_NOUGHT c) (fun _ => ⟨_, _, rfl, rfl, ⟨_, _, rfl, rfl, rfl⟩⟩)) (dc_val (de_ix (hr_cls hr) (by intro _ _; rfl) (de_var (pv 9) rfl) (dv_var (pv 5))) dc_nil)) rfl (by decide))) (raw_name (by decide) rfl) (by decide))) dc_nil)) rfl (by decide)))
 (dss_cons (os1 := [false, false, false, false, false, false, false, false, false, false, false, false, false])
 (ds_set (tg := .Constant .none 0 ⟨0, 0, 0, 0⟩) (fun h => ps_set (i := 12) sc_cheapest_cover.nd rfl (by first | exact Or.inl rfl | exact Or.inr rfl) h) (by decide) (by decide) (dcall (ks := [none, none, none]) (ok_risen c) rfl hr (by decide) (by rfl) (dc_val (de_var (pv 8) rfl) (dc_val (de_var (pv 9) rfl) (dc_val (de_var (pv 11) rfl) dc_nil))) rfl (by decide)))
 (dss_cons (os1 := [false, false, false, false, false, false, false, false, false, false, false, false, false])
 (ds_if (PW.pt (dw_or (dt_cmp op_isC isC_ok isC_nx (nomark _) (de_var (pv 3) rfl) (dv_of de_non)) (dw_or (dt_val (dcall (ks := [none, none]) (ok_less c) rfl hr (by decide) (by rfl) (dc_val (de_var (pv 12) rfl) (dc_val (de_ix (hr_cls hr) (by intro _ _; rfl) (de_var (pv 3) rfl) (dv_of de_int)) dc_nil)) rfl (by decide))) (pw_or1 (PW.pt (dw_and (dt_cmp (op_eqD (hr_cls2 hr)) eqD_ok eqD_nx (nomark _) (de_var (pv 12) rfl) (dv_of (de_ix (hr_cls hr) (by intro _ _; rfl) (de_var (pv 3) rfl) (dv_of de_int)))) (pw_and1 (dt_cmp (op_ltP (hr_cls2 hr)) (ltP_ok _) (ltP_nx _) (nomark _) (dcall (ks := [none]) (ok_in_row c) rfl hr (by decide) (by rfl) (dc_val (de_var (pv 11) rfl) dc_nil) rfl (by decide)) (dv_of (dcall (ks := [none]) (ok_in_row c) rfl hr (by decide) (by rfl) (dc_val (de_ix (hr_cls hr) (by intro _ _; rfl) (de_var (pv 3) rfl) (dv_of de_int)) dc_nil) rfl (by decide)))))))))))
 (dss_cons (os1 := [false, false, false, false, false, false, false, false, false, false, false, false, false])
 (ds_set (tg := .Constant .none 0 ⟨0, 0, 0, 0⟩) (fun h => ps_set (i := 3) sc_cheapest_cover.nd rfl (by first | exact Or.inl rfl | exact Or.inr rfl) h) (by decide) (by decide) (de_tup (da_cons (de_var (pv 12) rfl) (da_cons (de_var (pv 11) rfl) da_nil))))
 dss_nil)
 dss_nil)
 dss_nil)))
 dss_nil)
 dss_nil)))
 (dss_cons (os1 := [false, false, false, false, false, false, false, false, false, false, false, false, false]) (ds_ret rfl (de_var (pv 3) rfl)) dss_nil))))
abbrev N_f_law_in_box : List Str := ["box", "basket", "name"]
theorem sc_f_law_in_box : FnScope N_f_law_in_box ["box", "basket"] (defScope (top 27)) := ⟨rfl, rfl, rfl, by decide +kernel, rfl, by decide +kernel, by decide +kernel⟩
def b_f_law_in_box : SM := (sSeq (sRet (eBl (e2 eqD (e1 lenD (eCompA [2] 0 (gSet 2) (eNot (eChain (α := Unit) (cmpD fun i j => decide (i ≤ j)) (cmpD fun i j => decide (i ≤ j)) (e2 ixD (e2 ixD (eVar 0) (eVar 2)) (eRet (.int 0))) (e2 ixD (eVar 1) (eVar 2)) (e2 ixD (e2 ixD (eVar 0) (eVar 2)) (eRet (.int 1))))) (eVar 2))) (eRet (.int 0))))) sNil)
def m_f_law_in_box : List D → Res (D × List D) := fnM 3 2 false b_f_law_in_box
theorem ok_f_law_in_box (c : Base fa fn ex K mg) : Ok P w K mg base "_law_in_box" 1 ["box", "basket"] [false, false] false m_f_law_in_box := mkOk c 20 20 rfl rfl (fun _ _ _ _ _ _ us hl => match us, hl with | [_, _], _ => rfl) fun F =>
  fn_D F sc_f_law_in_box rfl (by decide) (by decide) (kt := []) (os' := [false, false, false]) fun cdv A outer s H E hr => (dss_cons (os1 := [false, false, false]) (ds_ret rfl (dv_cmp (op_eqD (hr_cls2 hr)) eqD_ok eqD_nx (nomark _) (de_call1 (fun h => pe_callB call_len2 (by rfl) (c.free 51 rfl) (by first | exact boot_len | exact PySem.boot_len | exact PyProof.Rows.boot_len | exact L2.boot_len) h) lenD_ok lenD_nx (dv_of (de_of (do_lcA (own := [("name", 2)]) rfl sc_f_law_in_box.nd (pv 0) rfl (blkOk_by (N := N_f_law_in_box) (sc := defScope (top 27)) (own := [("name", 2)]) (by decide +kernel)) (gt := (gName 2)) (fun _ _ _ _ _ => (pg_name (i := 2) sc_f_law_in_box.nd rfl (by first | exact Or.inl rfl | exact Or.inr rfl))) (fun _ _ _ _ _ => (dts_one (dt_not (dt_chain op_le op_le (cmpD_ok fun i j => decide (i ≤ j)) (cmpD_ok fun i j => decide (i ≤ j)) (cmpD_nx _) (cmpD_nx _) (de_ix (hr_cls hr) (by intro _ _; rfl) (de_ix (hr_cls hr) (by intro _ _; rfl) (de_var (pv 0) rfl) (dv_var (pv 2))) (dv_of de_int)) (de_ix (hr_cls hr) (by intro _ _; rfl) (de_var (pv 1) rfl) (dv_var (pv 2))) (dv_of (de_ix (hr_cls hr) (by intro _ _; rfl) (de_ix (hr_cls hr) (by intro _ _; rfl) (de_var (pv 0) rfl) (dv_var (pv 2))) (dv_of de_int))))))) (fun _ _ _ _ _ => (de_var (pv 2) rfl)) (raw_name (by decide) rfl) (by decide))))) (dv_of de_int))) dss_nil)
abbrev N_f_law_gcd : List Str := ["one", "other", "k"]
theorem sc_f_law_gcd : FnScope N_f_law_gcd ["one", "other"] (defScope (top 28)) := ⟨rfl, rfl, rfl, by decide +kernel, rfl, by decide +kernel, by decide +kernel⟩
def l_f_law_gcd_1 : SM := (sSeq (sIf (e2 eqD (eVar 1) (eRet (.int 0)))
 (sSeq sBrk sNil)
 sNil)
 (sSeq (sPar 0 1 (eCons (eVar 1) (eCons (e2 modD (e1 intD (eVar 0)) (eVar 1)) eNil)))
 sNil))
def b_f_law_gcd : SM := (sSeq (sFor (e1 rng1D (eRet (.int 20000))) (gSet 2) l_f_law_gcd_1)
 (sSeq (sRet (eVar 0)) sNil))
def m_f_law_gcd : List D → Res (D × List D) := fnM 3 2 false b_f_law_gcd
theorem ok_f_law_gcd (c : Base fa fn ex K mg) : Ok P w K mg base "_law_gcd" 1 ["one", "other"] [false, false] false m_f_law_gcd := mkOk c 21 21 rfl rfl (fun _ _ _ _ _ _ us hl => match us, hl with | [_, _], _ => rfl) fun F =>
  fn_D F sc_f_law_gcd rfl (by decide) (by decide) (kt := []) (os' := [false, false, false]) fun cdv A outer s H E hr => (dss_cons (os1 := [false, false, false])
 (ds_for (os1 := [false, false, false]) PassesOwn.never rfl (di_range1 (fun h => pi_range1 (by rfl) (c.free 55 rfl) h) (dv_of de_int)) (dg_name (pg_name (i := 2) sc_f_law_gcd.nd rfl (by first | exact Or.inl rfl | exact Or.inr rfl)) (by decide) (by decide))
 (dss_cons (os1 := [false, false, false])
 (ds_if (dt_cmp (op_eqD (hr_cls2 hr)) eqD_ok eqD_nx (nomark _) (de_var (pv 1) rfl) (dv_of de_int))
 (dss_cons (os1 := [false, false, false]) (ds_brk rfl) dss_nil)
 dss_nil)
 (dss_cons (os1 := [false, false, false])
 (ds_par (i := 0) (j := 1) (fun h => ps_par rfl sc_f_law_gcd.nd rfl rfl (by decide) rfl rfl h (by rfl)) (da_cons (de_var (pv 1) rfl) (da_cons (de_op op_modN modD_ok modD_nx (de_call1 (fun h => pe_callTy call_int1 (by rfl) (c.free 49 rfl) (by first | exact boot_int | exact PySem.boot_int | exact PyProof.Rows.boot_int | exact L2.boot_int) h) intD_ok intD_nx (dv_var (pv 0))) (dv_var (pv 1))) da_nil)) (by decide) (by decide) (by decide) (by decide))
 dss_nil)))
 (dss_cons (os1 := [false, false, false]) (ds_ret rfl (de_var (pv 0) rfl)) dss_nil))
abbrev N_f_law_ratio : List Str := ["p", "q", "shared"]
theorem sc_f_law_ratio : FnScope N_f_law_ratio ["p", "q"] (defScope (top 29)) := ⟨rfl, rfl, rfl, by decide +kernel, rfl, by decide +kernel, by decide +kernel⟩
def b_f_law_ratio : SM := (sSeq (sIf (e2 (cmpD fun i j => decide (i < j)) (eVar 1) (eRet (.int 0)))
 (sSeq (sPar 0 1 (eCons (e1 negD (eVar 0)) (eCons (e1 negD (eVar 1)) eNil)))
 sNil)
 sNil)
 (sSeq (sSet 2 (eCall [none, none] m_f_law_gcd (eCons (e1 absD (eVar 0)) (eCons (eVar 1) eNil))))
 (sSeq (sRet (eL gTup (eCons (e2 fdivD (eVar 0) (eVar 2)) (eCons (e2 fdivD (eVar 1) (eVar 2)) eNil)))) sNil)))
def m_f_law_ratio : List D → Res (D × List D) := fnM 3 2 false b_f_law_ratio
theorem ok_f_law_ratio (c : Base fa fn ex K mg) : Ok P w K mg base "_law_ratio" 2 ["p", "q"] [false, false] false m_f_law_ratio := mkOk c 22 22 rfl rfl (fun _ _ _ _ _ _ us hl => match us, hl with | [_, _], _ => rfl) fun F =>
  fn_D F sc_f_law_ratio rfl (by decide) (by decide) (kt := []) (os' := [false, false, false]) fun cdv A outer s H E hr => (dss_cons (os1 := [false, false, false])
 (ds_if (dt_cmp op_lt (cmpD_ok fun i j => decide (i < j)) (cmpD_nx _) (nomark _) (de_var (pv 1) rfl) (dv_of de_int))
 (dss_cons (os1 := [false, false, false])
 (ds_par (i := 0) (j := 1) (fun h => ps_par rfl sc_f_law_ratio.nd rfl rfl (by decide) rfl rfl h (by rfl)) (da_cons (de_un un_neg negD_ok negD_nx (dv_var (pv 0))) (da_cons (de_un un_neg negD_ok negD_nx (dv_var (pv 1))) da_nil)) (by decide) (by decide) (by decide) (by decide))
 dss_nil)
 dss_nil)
 (dss_cons (os1 := [false, false, false])
 (ds_set (tg := .Constant .none 0 ⟨0, 0, 0, 0⟩) (fun h => ps_set (i := 2) sc_f_law_ratio.nd rfl (by first | exact Or.inl rfl | exact Or.inr rfl) h) (by decide) (by decide) (dcall (ks := [none, none]) (ok_f_law_gcd c) rfl hr (by decide) (by rfl) (dc_val (de_call1 (fun h => pe_callB call_abs (by rfl) (c.free 45 rfl) (by first | exact boot_abs | exact PySem.boot_abs | exact PyProof.Rows.boot_abs | exact L2.boot_abs) h) absD_ok absD_nx (dv_var (pv 0))) (dc_val (de_var (pv 1) rfl) dc_nil)) rfl (by decide)))
 (dss_cons (os1 := [false, false, false]) (ds_ret rfl (de_tup (da_cons (de_op op_fdivA fdivD_ok fdivD_nx (de_var (pv 0) rfl) (dv_var (pv 2))) (da_cons (de_op op_fdivA fdivD_ok fdivD_nx (de_var (pv 1) rfl) (dv_var (pv 2))) da_nil)))) dss_nil)))
abbrev N_f_law_add : List Str := ["one", "other"]
theorem sc_f_law_add : FnScope N_f_law_add ["one", "other"] (defScope (top 30)) := ⟨rfl, rfl, rfl, by decide +kernel, rfl, by decide +kernel, by decide +kernel⟩
def b_f_law_add : SM := (sSeq (sRet (eCall [none, none] m_f_law_ratio (eCons (e2 addD (e2 mulD (e2 ixD (eVar 0) (eRet (.int 0))) (e2 ixD (eVar 1) (eRet (.int 1)))) (e2 mulD (e2 ixD (eVar 1) (eRet (.int 0))) (e2 ixD (eVar 0) (eRet (.int 1))))) (eCons (e2 mulD (e2 ixD (eVar 0) (eRet (.int 1))) (e2 ixD (eVar 1) (eRet (.int 1)))) eNil)))) sNil)
def m_f_law_add : List D → Res (D × List D) := fnM 2 2 false b_f_law_add
theorem ok_f_law_add (c : Base fa fn ex K mg) : Ok P w K mg base "_law_add" 3 ["one", "other"] [false, false] false m_f_law_add := mkOk c 23 23 rfl rfl (fun _ _ _ _ _ _ us hl => match us, hl with | [_, _], _ => rfl) fun F =>
  fn_D F sc_f_law_add rfl (by decide) (by decide) (kt := []) (os' := [false, false]) fun cdv A outer s H E hr => (dss_cons (os1 := [false, false]) (ds_ret rfl (dcall (ks := [none, none]) (ok_f_law_ratio c) rfl hr (by decide) (by rfl) (dc_val (de_op op_add4 addD_ok addD_nx (de_op op_mul2 mulD_ok mulD_nx (de_ix (hr_cls hr) (by intro _ _; rfl) (de_var (pv 0) rfl) (dv_of de_int)) (dv_of (de_ix (hr_cls hr) (by intro _ _; rfl) (de_var (pv 1) rfl) (dv_of de_int)))) (dv_of (de_op op_mul2 mulD_ok mulD_nx (de_ix (hr_cls hr) (by intro _ _; rfl) (de_var (pv 1) rfl) (dv_of de_int)) (dv_of (de_ix (hr_cls hr) (by intro _ _; rfl) (de_var (pv 0) rfl) (dv_of de_int)))))) (dc_val (de_op op_mul2 mulD_ok mulD_nx (de_ix (hr_cls hr) (by intro _ _; rfl) (de_var (pv 0) rfl) (dv_of de_int)) (dv_of (de_ix (hr_cls hr) (by intro _ _; rfl) (de_var (pv 1) rfl) (dv_of de_int)))) dc_nil)) rfl (by decide))) dss_nil)
abbrev N_f_law_mul : List Str := ["one", "other"]
theorem sc_f_law_mul : FnScope N_f_law_mul ["one", "other"] (defScope (top 31)) := ⟨rfl, rfl, rfl, by decide +kernel, rfl, by decide +kernel, by decide +kernel⟩
def b_f_law_mul : SM := (sSeq (sRet (eCall [none, none] m_f_law_ratio (eCons (e2 mulD (e2 ixD (eVar 0) (eRet (.int 0))) (e2 ixD (eVar 1) (eRet (.int 0)))) (eCons (e2 mulD (e2 ixD (eVar 0) (eRet (.int 1))) (e2 ixD (eVar 1) (eRet (.int 1)))) eNil)))) sNil)
def m_f_law_mul : List D → Res (D × List D) := fnM 2 2 false b_f_law_mul
theorem ok_f_law_mul (c : Base fa fn ex K mg) : Ok P w K mg base "_law_mul" 3 ["one", "other"] [false, false] false m_f_law_mul := mkOk c 24 24 rfl rfl (fun _ _ _ _ _ _ us hl => match us, hl with | [_, _], _ => rfl) fun F =>
  fn_D F sc_f_law_mul rfl (by decide) (by decide) (kt := []) (os' := [false, false]) fun cdv A outer s H E hr => (dss_cons (os1 := [false, false]) (ds_ret rfl (dcall (ks := [none, none]) (ok_f_law_ratio c) rfl hr (by decide) (by rfl) (dc_val (de_op op_mul2 mulD_ok mulD_nx (de_ix (hr_cls hr) (by intro _ _; rfl) (de_var (pv 0) rfl) (dv_of de_int)) (dv_of (de_ix (hr_cls hr) (by intro _ _; rfl) (de_var (pv 1) rfl) (dv_of de_int)))) (dc_val (de_op op_mul2 mulD_ok mulD_nx (de_ix (hr_cls hr) (by intro _ _; rfl) (de_var (pv 0) rfl) (dv_of de_int)) (dv_of (de_ix (hr_cls hr) (by intro _ _; rfl) (de_var (pv 1) rfl) (dv_of de_int)))) dc_nil)) rfl (by decide))) dss_nil)
abbrev N_f_law_price : List Str := ["entries", "basket", "box", "base", "rises", "found", "name"]
theorem sc_f_law_price : FnScope N_f_law_price ["entries", "basket"] (defScope (top 32)) := ⟨rfl, rfl, rfl, by decide +kernel, rfl, by decide +kernel, by decide +kernel⟩
def l_f_law_price_1 : SM := (sSeq (sSet 5 (eCall [none, none] m_f_law_add (eCons (eVar 5) (eCons (eCall [none, none] m_f_law_mul (eCons (e2 ixD (eVar 4) (eVar 6)) (eCons (eL gTup (eCons (e2 ixD (eVar 1) (eVar 6)) (eCons (eRet (.int 1)) eNil))) eNil))) eNil))))
 sNil)
def l_f_law_price_2 : SM := (sSeq (sIf (e1 gBl (eCall [none, none] m_f_law_in_box (eCons (eVar 2) (eCons (eVar 1) eNil))))
 (sSeq (sSet 5 (eVar 3))
 (sSeq (forA 4 (gSet 6) l_f_law_price_1)
 (sSeq (sRet (eVar 5)) sNil)))
 sNil)
 sNil)
def b_f_law_price : SM := (sSeq (forA 0 (gTupT 3 (gsCons (gSet 2) (gsCons (gSet 3) (gsCons (gSet 4) gsNil)))) l_f_law_price_2)
 (sSeq (sRet (eRet .non)) sNil))
def m_f_law_price : List D → Res (D × List D) := fnM 7 2 false b_f_law_price
theorem ok_f_law_price (c : Base fa fn ex K mg) : Ok P w K mg base "_law_price" 4 ["entries", "basket"] [false, false] false m_f_law_price := mkOk c 25 25 rfl rfl (fun _ _ _ _ _ _ us hl => match us, hl with | [_, _], _ => rfl) fun F =>
  fn_D F sc_f_law_price rfl (by decide) (by decide) (kt := []) (os' := [false, false, false, false, false, false, false]) fun cdv A outer s H E hr => (dss_cons (os1 := [false, false, false, false, false, false, false])
 (ds_forA (os1 := [false, false, false, false, false, false, false]) PassesOwn.never rfl (pv 0) rfl (dg_tup rfl (dgs_cons (os1 := [false, false, false, false, false, false, false]) (dg_name (pg_name (i := 2) sc_f_law_price.nd rfl (by first | exact Or.inl rfl | exact Or.inr rfl)) (by decide) (by decide)) (dgs_cons (os1 := [false, false, false, false, false, false, false]) (dg_name (pg_name (i := 3) sc_f_law_price.nd rfl (by first | exact Or.inl rfl | exact Or.inr rfl)) (by decide) (by decide)) (dgs_cons (os1 := [false, false, false, false, false, false, false]) (dg_name (pg_name (i := 4) sc_f_law_price.nd rfl (by first | exact Or.inl rfl | exact Or.inr rfl)) (by decide) (by decide)) dgs_nil))))
 (dss_cons (os1 := [false, false, false, false, false, false, false])
 (ds_if (dt_val (dcall (ks := [none, none]) (ok_f_law_in_box c) rfl hr (by decide) (by rfl) (dc_val (de_var (pv 2) rfl) (dc_val (de_var (pv 1) rfl) dc_nil)) rfl (by decide)))
 (dss_cons (os1 := [false, false, false, false, false, false, false])
 (ds_set (tg := .Constant .none 0 ⟨0, 0, 0, 0⟩) (fun h => ps_set (i := 5) sc_f_law_price.nd rfl (by first | exact Or.inl rfl | exact Or.inr rfl) h) (by decide) (by decide) (de_var (pv 3) rfl))
 (dss_cons (os1 := [false, false, false, false, false, false, false])
 (ds_forA (os1 := [false, false, false, false, false, false, false]) PassesOwn.never rfl (pv 4) rfl (dg_name (pg_name (i := 6) sc_f_law_price.nd rfl (by first | exact Or.inl rfl | exact Or.inr rfl)) (by decide) (by decide))
 (dss_cons (os1 := [false, false, false, false, false, false, false])
 (ds_set (tg := .Constant .none 0 ⟨0, 0, 0, 0⟩) (fun h => ps_set (i := 5) sc_f_law_price.nd rfl (by first | exact Or.inl rfl | exact Or.inr rfl) h) (by decide) (by decide) (dcall (ks := [none, none]) (ok_f_law_add c) rfl hr (by decide) (by rfl) (dc_val (de_var (pv 5) rfl) (dc_val (dcall (ks := [none, none]) (ok_f_law_mul c) rfl hr (by decide) (by rfl) (dc_val (de_ix (hr_cls hr) (by intro _ _; rfl) (de_var (pv 4) rfl) (dv_var (pv 6))) (dc_val (de_tup (da_cons (de_ix (hr_cls hr) (by intro _ _; rfl) (de_var (pv 1) rfl) (dv_var (pv 6))) (da_cons de_int da_nil))) dc_nil)) rfl (by decide)) dc_nil)) rfl (by decide)))
 dss_nil))
 (dss_cons (os1 := [false, false, false, false, false, false, false]) (ds_ret rfl (de_var (pv 5) rfl)) dss_nil)))
 dss_nil)
 dss_nil))
 (dss_cons (os1 := [false, false, false, false, false, false, false]) (ds_ret rfl de_non) dss_nil))
abbrev N_f_law_less : List Str := ["one", "other"]
theorem sc_f_law_less : FnScope N_f_law_less ["one", "other"] (defScope (top 33)) := ⟨rfl, rfl, rfl, by decide +kernel, rfl, by decide +kernel, by decide +kernel⟩
def b_f_law_less : SM := (sSeq (sRet (eBl (e2 (cmpD fun i j => decide (i < j)) (e2 mulD (e2 ixD (eVar 0) (eRet (.int 0))) (e2 ixD (eVar 1) (eRet (.int 1)))) (e2 mulD (e2 ixD (eVar 1) (eRet (.int 0))) (e2 ixD (eVar 0) (eRet (.int 1))))))) sNil)
def m_f_law_less : List D → Res (D × List D) := fnM 2 2 false b_f_law_less
theorem ok_f_law_less (c : Base fa fn ex K mg) : Ok P w K mg base "_law_less" 1 ["one", "other"] [false, false] false m_f_law_less := mkOk c 26 26 rfl rfl (fun _ _ _ _ _ _ us hl => match us, hl with | [_, _], _ => rfl) fun F =>
  fn_D F sc_f_law_less rfl (by decide) (by decide) (kt := []) (os' := [false, false]) fun cdv A outer s H E hr => (dss_cons (os1 := [false, false]) (ds_ret rfl (dv_cmp op_lt (cmpD_ok fun i j => decide (i < j)) (cmpD_nx _) (nomark _) (de_op op_mul2 mulD_ok mulD_nx (de_ix (hr_cls hr) (by intro _ _; rfl) (de_var (pv 0) rfl) (dv_of de_int)) (dv_of (de_ix (hr_cls hr) (by intro _ _; rfl) (de_var (pv 1) rfl) (dv_of de_int)))) (dv_of (de_op op_mul2 mulD_ok mulD_nx (de_ix (hr_cls hr) (by intro _ _; rfl) (de_var (pv 1) rfl) (dv_of de_int)) (dv_of (de_ix (hr_cls hr) (by intro _ _; rfl) (de_var (pv 0) rfl) (dv_of de_int))))))) dss_nil)
abbrev N_f_law_mixed : List Str := ["number", "place", "first", "second", "third"]
theorem sc_f_law_mixed : FnScope N_f_law_mixed ["number", "place"] (defScope (top 34)) := ⟨rfl, rfl, rfl, by decide +kernel, rfl, by decide +kernel, by decide +kernel⟩
def b_f_law_mixed : SM := (sSeq (sSet 2 (e2 modD (e1 intD (e2 addD (e2 addD (e2 mulD (eVar 0) (eRet (.int 48271))) (e2 mulD (eVar 1) (eRet (.int 69621)))) (eRet (.int 11)))) (eRet (.int 618970019642690137449562111))))
 (sSeq (sSet 3 (e2 modD (e1 intD (e2 addD (e2 addD (e2 mulD (eVar 2) (eVar 2)) (e2 mulD (eRet (.int 7)) (eVar 2))) (eVar 1))) (eRet (.int 162259276829213363391578010288127))))
 (sSeq (sSet 4 (e2 modD (e1 intD (e2 addD (e2 mulD (eVar 3) (eVar 3)) (eVar 2))) (eRet (.int 618970019642690137449562111))))
 (sSeq (sRet (e2 addD (e2 mulD (eVar 3) (eRet (.int 618970019642690137449562111))) (eVar 4))) sNil))))
def m_f_law_mixed : List D → Res (D × List D) := fnM 5 2 false b_f_law_mixed
theorem ok_f_law_mixed (c : Base fa fn ex K mg) : Ok P w K mg base "_law_mixed" 1 ["number", "place"] [false, false] false m_f_law_mixed := mkOk c 27 27 rfl rfl (fun _ _ _ _ _ _ us hl => match us, hl with | [_, _], _ => rfl) fun F =>
  fn_D F sc_f_law_mixed rfl (by decide) (by decide) (kt := []) (os' := [false, false, false, false, false]) fun cdv A outer s H E hr => (dss_cons (os1 := [false, false, false, false, false])
 (ds_set (tg := .Constant .none 0 ⟨0, 0, 0, 0⟩) (fun h => ps_set (i := 2) sc_f_law_mixed.nd rfl (by first | exact Or.inl rfl | exact Or.inr rfl) h) (by decide) (by decide) (de_op op_modN modD_ok modD_nx (de_call1 (fun h => pe_callTy call_int1 (by rfl) (c.free 49 rfl) (by first | exact boot_int | exact PySem.boot_int | exact PyProof.Rows.boot_int | exact L2.boot_int) h) intD_ok intD_nx (dv_of (de_op op_add4 addD_ok addD_nx (de_op op_add4 addD_ok addD_nx (de_op op_mul2 mulD_ok mulD_nx (de_var (pv 0) rfl) (dv_of de_int)) (dv_of (de_op op_mul2 mulD_ok mulD_nx (de_var (pv 1) rfl) (dv_of de_int)))) (dv_of de_int)))) (dv_of de_int)))
 (dss_cons (os1 := [false, false, false, false, false])
 (ds_set (tg := .Constant .none 0 ⟨0, 0, 0, 0⟩) (fun h => ps_set (i := 3) sc_f_law_mixed.nd rfl (by first | exact Or.inl rfl | exact Or.inr rfl) h) (by decide) (by decide) (de_op op_modN modD_ok modD_nx (de_call1 (fun h => pe_callTy call_int1 (by rfl) (c.free 49 rfl) (by first | exact boot_int | exact PySem.boot_int | exact PyProof.Rows.boot_int | exact L2.boot_int) h) intD_ok intD_nx (dv_of (de_op op_add4 addD_ok addD_nx (de_op op_add4 addD_ok addD_nx (de_op op_mul2 mulD_ok mulD_nx (de_var (pv 2) rfl) (dv_var (pv 2))) (dv_of (de_op op_mul2 mulD_ok mulD_nx de_int (dv_var (pv 2))))) (dv_var (pv 1))))) (dv_of de_int)))
 (dss_cons (os1 := [false, false, false, false, false])
 (ds_set (tg := .Constant .none 0 ⟨0, 0, 0, 0⟩) (fun h => ps_set (i := 4) sc_f_law_mixed.nd rfl (by first | exact Or.inl rfl | exact Or.inr rfl) h) (by decide) (by decide) (de_op op_modN modD_ok modD_nx (de_call1 (fun h => pe_callTy call_int1 (by rfl) (c.free 49 rfl) (by first | exact boot_int | exact PySem.boot_int | exact PyProof.Rows.boot_int | exact L2.boot_int) h) intD_ok intD_nx (dv_of (de_op op_add4 addD_ok addD_nx (de_op op_mul2 mulD_ok mulD_nx (de_var (pv 3) rfl) (dv_var (pv 3))) (dv_var (pv 2))))) (dv_of de_int)))
 (dss_cons (os1 := [false, false, false, false, false]) (ds_ret rfl (de_op op_add4 addD_ok addD_nx (de_op op_mul2 mulD_ok mulD_nx (de_var (pv 3) rfl) (dv_of de_int)) (dv_var (pv 4)))) dss_nil))))
abbrev N_f_law_rest : List Str := ["script", "place", "fills", "number"]
theorem sc_f_law_rest : FnScope N_f_law_rest ["script", "place", "fills"] (defScope (top 35)) := ⟨rfl, rfl, rfl, by decide +kernel, rfl, by decide +kernel, by decide +kernel⟩
def b_f_law_rest : SM := (sSeq (sSet 3 (eRet (.int 0)))
 (sSeq (sIf (e2 (cmpD fun i j => decide (j < i)) (e1 lenD (eVar 0)) (eRet (.int 0)))
 (sSeq (sSet 3 (e1 intD (e2 ixD (eVar 0) (e2 modD (e1 intD (eVar 1)) (e1 lenD (eVar 0))))))
 sNil)
 sNil)
 (sSeq (sIf (e2 (cmpD fun i j => decide (i < j)) (eVar 3) (eRet (.int 0)))
 (sSeq (sSet 3 (e2 subD (eRet (.int 1)) (e2 mulD (eRet (.int 2)) (eVar 3))))
 sNil)
 sNil)
 (sSeq (sIf (eAnd (e2 eqD (eVar 2) (eRet (.int 0))) (eAnd (e2 (cmpD fun i j => decide (i < j)) (eVar 1) (e1 lenD (eVar 0))) (e2 (cmpD fun i j => decide (j ≤ i)) (eVar 3) (e2 powD (eRet (.int 10)) (eRet (.int 18))))))
 (sSeq (sRet (e2 subD (eVar 3) (e2 powD (eRet (.int 10)) (eRet (.int 18))))) sNil)
 sNil)
 (sSeq (sRet (eCall [none, none] m_f_law_mixed (eCons (e2 addD (eVar 3) (e2 mulD (eVar 2) (eRet (.int 1000003)))) (eCons (eVar 1) eNil)))) sNil)))))
def m_f_law_rest : List D → Res (D × List D) := fnM 4 3 false b_f_law_rest
theorem ok_f_law_rest (c : Base fa fn ex K mg) : Ok P w K mg base "_law_rest" 2 ["script", "place", "fills"] [false, false, false] false m_f_law_rest := mkOk c 28 28 rfl rfl (fun _ _ _ _ _ _ us hl => match us, hl with | [_, _, _], _ => rfl) fun F =>
  fn_D F sc_f_law_rest rfl (by decide) (by decide) (kt := []) (os' := [false, false, false, false]) fun cdv A outer s H E hr => (dss_cons (os1 := [false, false, false, false])
 (ds_set (tg := .Constant .none 0 ⟨0, 0, 0, 0⟩) (fun h => ps_set (i := 3) sc_f_law_rest.nd rfl (by first | exact Or.inl rfl | exact Or.inr rfl) h) (by decide) (by decide) de_int)
 (dss_cons (os1 := [false, false, false, false])
 (ds_if (dt_cmp op_gt (cmpD_ok fun i j => decide (j < i)) (cmpD_nx _) (nomark _) (de_call1 (fun h => pe_callB call_len2 (by rfl) (c.free 51 rfl) (by first | exact boot_len | exact PySem.boot_len | exact PyProof.Rows.boot_len | exact L2.boot_len) h) lenD_ok lenD_nx (dv_var (pv 0))) (dv_of de_int))
 (dss_cons (os1 := [false, false, false, false])
 (ds_set (tg := .Constant .none 0 ⟨0, 0, 0, 0⟩) (fun h => ps_set (i := 3) sc_f_law_rest.nd rfl (by first | exact Or.inl rfl | exact Or.inr rfl) h) (by decide) (by decide) (de_call1 (fun h => pe_callTy call_int1 (by rfl) (c.free 49 rfl) (by first | exact boot_int | exact PySem.boot_int | exact PyProof.Rows.boot_int | exact L2.boot_int) h) intD_ok intD_nx (dv_of (de_ix (hr_cls hr) (by intro _ _; rfl) (de_var (pv 0) rfl) (dv_of (de_op op_modN modD_ok modD_nx (de_call1 (fun h => pe_callTy call_int1 (by rfl) (c.free 49 rfl) (by first | exact boot_int | exact PySem.boot_int | exact PyProof.Rows.boot_int | exact L2.boot_int) h) intD_ok intD_nx (dv_var (pv 1))) (dv_of (de_call1 (fun h => pe_callB call_len2 (by rfl) (c.free 51 rfl) (by first | exact boot_len | exact PySem.boot_len | exact PyProof.Rows.boot_len | exact L2.boot_len) h) lenD_ok lenD_nx (dv_var (pv 0))))))))))
 dss_nil)
 dss_nil)
 (dss_cons (os1 := [false, false, false, false])
 (ds_if (dt_cmp op_lt (cmpD_ok fun i j => decide (i < j)) (cmpD_nx _) (nomark _) (de_var (pv 3) rfl) (dv_of de_int))
 (dss_cons (os1 := [false, false, false, false])
 (ds_set (tg := .Constant .none 0 ⟨0, 0, 0, 0⟩) (fun h => ps_set (i := 3) sc_f_law_rest.nd rfl (by first | exact Or.inl rfl | exact Or.inr rfl) h) (by decide) (by decide) (de_op op_sub subD_ok subD_nx de_int (dv_of (de_op op_mul2 mulD_ok mulD_nx de_int (dv_var (pv 3))))))
 dss_nil)
 dss_nil)
 (dss_cons (os1 := [false, false, false, false])
 (ds_if (PW.pt (dw_and (dt_cmp (op_eqD (hr_cls2 hr)) eqD_ok eqD_nx (nomark _) (de_var (pv 2) rfl) (dv_of de_int)) (dw_and (dt_cmp op_lt (cmpD_ok fun i j => decide (i < j)) (cmpD_nx _) (nomark _) (de_var (pv 1) rfl) (dv_of (de_call1 (fun h => pe_callB call_len2 (by rfl) (c.free 51 rfl) (by first | exact boot_len | exact PySem.boot_len | exact PyProof.Rows.boot_len | exact L2.boot_len) h) lenD_ok lenD_nx (dv_var (pv 0))))) (pw_and1 (dt_cmp op_ge (cmpD_ok fun i j => decide (j ≤ i)) (cmpD_nx _) (nomark _) (de_var (pv 3) rfl) (dv_of (de_op op_pow powD_ok powD_nx de_int (dv_of de_int))))))))
 (dss_cons (os1 := [false, false, false, false]) (ds_ret rfl (de_op op_sub subD_ok subD_nx (de_var (pv 3) rfl) (dv_of (de_op op_pow powD_ok powD_nx de_int (dv_of de_int))))) dss_nil)
 dss_nil)
 (dss_cons (os1 := [false, false, false, false]) (ds_ret rfl (dcall (ks := [none, none]) (ok_f_law_mixed c) rfl hr (by decide) (by rfl) (dc_val (de_op op_add4 addD_ok addD_nx (de_var (pv 3) rfl) (dv_of (de_op op_mul2 mulD_ok mulD_nx (de_var (pv 2) rfl) (dv_of de_int)))) (dc_val (de_var (pv 1) rfl) dc_nil)) rfl (by decide))) dss_nil)))))
abbrev N_f_law_pool : List Str := ["script"]
theorem sc_f_law_pool : FnScope N_f_law_pool ["script"] (defScope (top 36)) := ⟨rfl, rfl, rfl, by decide +kernel, rfl, by decide +kernel, by decide +kernel⟩
def b_f_law_pool : SM := (sSeq (sRet (eL gLst (eCons (eVar 0) (eCons (eRet (.int 0)) (eCons (eCall [none, none, none] m_f_law_rest (eCons (eVar 0) (eCons (eRet (.int 0)) (eCons (eRet (.int 0)) eNil)))) (eCons (eRet (.int 0)) eNil)))))) sNil)
def m_f_law_pool : List D → Res (D × List D) := fnM 1 1 true b_f_law_pool
theorem ok_f_law_pool (c : Base fa fn ex K mg) : Ok P w K mg base "_law_pool" 3 ["script"] [false] true m_f_law_pool := mkOk c 29 29 rfl rfl (fun _ _ _ _ _ _ us hl => match us, hl with | [_], _ => rfl) fun F =>
  fn_D F sc_f_law_pool rfl (by decide) (by decide) (kt := []) (os' := [false]) fun cdv A outer s H E hr => (dss_cons (os1 := [false]) (ds_retO rfl (do_lst (k := 0) (da_cons (de_var (pv 0) rfl) (da_cons de_int (da_cons (dcall (ks := [none, none, none]) (ok_f_law_rest c) rfl hr (by decide) (by rfl) (dc_val (de_var (pv 0) rfl) (dc_val de_int (dc_val de_int dc_nil))) rfl (by decide)) (da_cons de_int da_nil)))))) dss_nil)
abbrev N_f_law_draw : List Str := ["pool", "limit", "value"]
theorem sc_f_law_draw : FnScope N_f_law_draw ["pool", "limit"] (defScope (top 37)) := ⟨rfl, rfl, rfl, by decide +kernel, rfl, by decide +kernel, by decide +kernel⟩
def b_f_law_draw : SM := (sSeq (sIf (e2 (cmpD fun i j => decide (i ≤ j)) (e2N ixD 0 (eRet (.int 2))) (eRet (.int 1)))
 (sSeq (sPut 0 setD1 (e2 addD (e2N ixD 0 (eRet (.int 3))) (eRet (.int 1))) (eRet (.int 3)))
 (sSeq (sPut 0 setD1 (eCall [none, none, none] m_f_law_rest (eCons (e2N ixD 0 (eRet (.int 0))) (eCons (e2N ixD 0 (eRet (.int 1))) (eCons (e2N ixD 0 (eRet (.int 3))) eNil)))) (eRet (.int 2)))
 sNil))
 sNil)
 (sSeq (sSet 2 (e2 modD (e1 intD (e2N ixD 0 (eRet (.int 2)))) (eVar 1)))
 (sSeq (sPut 0 setD1 (e2 fdivD (e1 intD (e2N ixD 0 (eRet (.int 2)))) (eVar 1)) (eRet (.int 2)))
 (sSeq (sRet (eVar 2)) sNil))))
def m_f_law_draw : List D → Res (D × List D) := fnM 3 2 false b_f_law_draw
theorem ok_f_law_draw (c : Base fa fn ex K mg) : Ok P w K mg base "_law_draw" 3 ["pool", "limit"] [true, false] false m_f_law_draw := mkOk c 30 30 rfl rfl (fun _ _ _ _ _ _ us hl => match us, hl with | [_, _], _ => rfl) fun F =>
  fn_D F sc_f_law_draw rfl (by decide) (by decide) (kt := []) (os' := [false, false, false]) fun cdv A outer s H E hr => (dss_cons (os1 := [true, false, false])
 (ds_if (dt_cmp op_le (cmpD_ok fun i j => decide (i ≤ j)) (cmpD_nx _) (nomark _) (de_ixN (hr_cls hr) (by intro _ _; rfl) (pv 0) (dv_of de_int)) (dv_of de_int))
 (dss_cons (os1 := [true, false, false])
 (ds_put rfl (pv 0) (de_op op_add4 addD_ok addD_nx (de_ixN (hr_cls hr) (by intro _ _; rfl) (pv 0) (dv_of de_int)) (dv_of de_int)) (dv_of de_int) (hr_cls hr) (fun h g => ps_asg h g))
 (dss_cons (os1 := [true, false, false])
 (ds_put rfl (pv 0) (dcall (ks := [none, none, none]) (ok_f_law_rest c) rfl hr (by decide) (by rfl) (dc_val (de_ixN (hr_cls hr) (by intro _ _; rfl) (pv 0) (dv_of de_int)) (dc_val (de_ixN (hr_cls hr) (by intro _ _; rfl) (pv 0) (dv_of de_int)) (dc_val (de_ixN (hr_cls hr) (by intro _ _; rfl) (pv 0) (dv_of de_int)) dc_nil))) rfl (by decide)) (dv_of de_int) (hr_cls hr) (fun h g => ps_asg h g))
 dss_nil))
 dss_nil)
 (dss_cons (os1 := [true, false, false])
 (ds_set (tg := .Constant .none 0 ⟨0, 0, 0, 0⟩) (fun h => ps_set (i := 2) sc_f_law_draw.nd rfl (by first | exact Or.inl rfl | exact Or.inr rfl) h) (by decide) (by decide) (de_op op_modN modD_ok modD_nx (de_call1 (fun h => pe_callTy call_int1 (by rfl) (c.free 49 rfl) (by first | exact boot_int | exact PySem.boot_int | exact PyProof.Rows.boot_int | exact L2.boot_int) h) intD_ok intD_nx (dv_of (de_ixN (hr_cls hr) (by intro _ _; rfl) (pv 0) (dv_of de_int)))) (dv_var (pv 1))))
 (dss_cons (os1 := [true, false, false])
 (ds_put rfl (pv 0) (de_op op_fdivA fdivD_ok fdivD_nx (de_call1 (fun h => pe_callTy call_int1 (by rfl) (c.free 49 rfl) (by first | exact boot_int | exact PySem.boot_int | exact PyProof.Rows.boot_int | exact L2.boot_int) h) intD_ok intD_nx (dv_of (de_ixN (hr_cls hr) (by intro _ _; rfl) (pv 0) (dv_of de_int)))) (dv_var (pv 1))) (dv_of de_int) (hr_cls hr) (fun h g => ps_asg h g))
 (dss_cons (os1 := [false, false, false]) (ds_ret rfl (de_var (pv 2) rfl)) dss_nil))))
abbrev N_f_law_pick : List Str := ["pool", "options"]
theorem sc_f_law_pick : FnScope N_f_law_pick ["pool", "options"] (defScope (top 38)) := ⟨rfl, rfl, rfl, by decide +kernel, rfl, by decide +kernel, by decide +kernel⟩
def b_f_law_pick : SM := (sSeq (sRet (e2 ixD (eVar 1) (eCall [some 0, none] m_f_law_draw (eConsO 0 (eCons (e1 lenD (eVar 1)) eNil))))) sNil)
def m_f_law_pick : List D → Res (D × List D) := fnM 2 2 false b_f_law_pick
theorem ok_f_law_pick (c : Base fa fn ex K mg) : Ok P w K mg base "_law_pick" 4 ["pool", "options"] [true, false] false m_f_law_pick := mkOk c 31 31 rfl rfl (fun _ _ _ _ _ _ us hl => match us, hl with | [_, _], _ => rfl) fun F =>
  fn_D F sc_f_law_pick rfl (by decide) (by decide) (kt := []) (os' := [false, false]) fun cdv A outer s H E hr => (dss_cons (os1 := [false, false]) (ds_ret rfl (de_ix (hr_cls hr) (by intro _ _; rfl) (de_var (pv 1) rfl) (dv_of (dcall (ks := [some 0, none]) (ok_f_law_draw c) rfl hr (by decide) (by rfl) (dc_own (pv 0) (dc_val (de_call1 (fun h => pe_callB call_len2 (by rfl) (c.free 51 rfl) (by first | exact boot_len | exact PySem.boot_len | exact PyProof.Rows.boot_len | exact L2.boot_len) h) lenD_ok lenD_nx (dv_var (pv 1))) dc_nil)) rfl (by decide))))) dss_nil)
abbrev N_f_law_turned : List Str := ["pool", "items", "place"]
theorem sc_f_law_turned : FnScope N_f_law_turned ["pool", "items"] (defScope (top 39)) := ⟨rfl, rfl, rfl, by decide +kernel, rfl, by decide +kernel, by decide +kernel⟩
def b_f_law_turned : SM := (sSeq (sSet 2 (eIf (e2 (cmpD fun i j => decide (j < i)) (e1 lenD (eVar 1)) (eRet (.int 0))) (eCall [some 0, none] m_f_law_draw (eConsO 0 (eCons (e1 lenD (eVar 1)) eNil))) (eRet (.int 0))))
 (sSeq (sRet (e2 addD (eSl slLD (eVar 1) (e1 gI (eVar 2)) (eRet none)) (eSl slLD (eVar 1) (eRet none) (e1 gI (eVar 2))))) sNil))
def m_f_law_turned : List D → Res (D × List D) := fnM 3 2 false b_f_law_turned
theorem ok_f_law_turned (c : Base fa fn ex K mg) : Ok P w K mg base "_law_turned" 4 ["pool", "items"] [true, false] false m_f_law_turned := mkOk c 32 32 rfl rfl (fun _ _ _ _ _ _ us hl => match us, hl with | [_, _], _ => rfl) fun F =>
  fn_D F sc_f_law_turned rfl (by decide) (by decide) (kt := []) (os' := [false, false, false]) fun cdv A outer s H E hr => (dss_cons (os1 := [true, false, false])
 (ds_set (tg := .Constant .none 0 ⟨0, 0, 0, 0⟩) (fun h => ps_set (i := 2) sc_f_law_turned.nd rfl (by first | exact Or.inl rfl | exact Or.inr rfl) h) (by decide) (by decide) (de_if (dt_cmp op_gt (cmpD_ok fun i j => decide (j < i)) (cmpD_nx _) (nomark _) (de_call1 (fun h => pe_callB call_len2 (by rfl) (c.free 51 rfl) (by first | exact boot_len | exact PySem.boot_len | exact PyProof.Rows.boot_len | exact L2.boot_len) h) lenD_ok lenD_nx (dv_var (pv 1))) (dv_of de_int)) (dcall (ks := [some 0, none]) (ok_f_law_draw c) rfl hr (by decide) (by rfl) (dc_own (pv 0) (dc_val (de_call1 (fun h => pe_callB call_len2 (by rfl) (c.free 51 rfl) (by first | exact boot_len | exact PySem.boot_len | exact PyProof.Rows.boot_len | exact L2.boot_len) h) lenD_ok lenD_nx (dv_var (pv 1))) dc_nil)) rfl (by decide)) de_int))
 (dss_cons (os1 := [false, false, false]) (ds_ret rfl (de_op op_add4 addD_ok addD_nx (de_of (do_slice (de_var (pv 1) rfl) (dp_some (dv_var (pv 2))) dp_none)) (dv_of (de_of (do_slice (de_var (pv 1) rfl) dp_none (dp_some (dv_var (pv 2)))))))) dss_nil))
abbrev N_f_law_space : List Str := ["pool", "most", "top", "names", "k", "name"]
theorem sc_f_law_space : FnScope N_f_law_space ["pool", "most", "top"] (defScope (top 40)) := ⟨rfl, rfl, rfl, by decide +kernel, rfl, by decide +kernel, by decide +kernel⟩
def l_f_law_space_1 : SM := (sSeq (sDrop (eMth 3 appendD (e2 addD (eCall [some 0, none] m_f_law_pick (eConsO 0 (eCons (eL gLst (eCons (eRet (.str "a")) (eCons (eRet (.str "m")) (eCons (eRet (.str "x")) (eCons (eRet (.str "day")) eNil))))) eNil))) (e1 strD (eVar 4)))))
 sNil)
def b_f_law_space : SM := (sSeq (sSet 3 (eL gLst eNil))
 (sSeq (sFor (e1 rng1D (e2 addD (eRet (.int 1)) (eCall [some 0, none] m_f_law_draw (eConsO 0 (eCons (eVar 1) eNil))))) (gSet 4) l_f_law_space_1)
 (sSeq (sRet (eComp [5] (e1 gItems (eCall [some 0, none] m_f_law_turned (eConsO 0 (eCons (eVar 3) eNil)))) (gSet 5) eYes (eL gTup (eCons (eVar 5) (eCons (eCall [some 0, none] m_f_law_draw (eConsO 0 (eCons (e2 addD (eVar 2) (eRet (.int 1))) eNil))) eNil))))) sNil)))
def m_f_law_space : List D → Res (D × List D) := fnM 6 3 false b_f_law_space
theorem ok_f_law_space (c : Base fa fn ex K mg) : Ok P w K mg base "_law_space" 5 ["pool", "most", "top"] [true, false, false] false m_f_law_space := mkOk c 33 33 rfl rfl (fun _ _ _ _ _ _ us hl => match us, hl with | [_, _, _], _ => rfl) fun F =>
  fn_D F sc_f_law_space rfl (by decide) (by decide) (kt := []) (os' := [false, false, false, false, false, false]) fun cdv A outer s H E hr => (dss_cons (os1 := [true, false, false, true, false, false])
 (ds_setO (tg := .Constant .none 0 ⟨0, 0, 0, 0⟩) (fun h => ps_set (i := 3) sc_f_law_space.nd rfl (by first | exact Or.inl rfl | exact Or.inr rfl) h) (by decide) (by decide) (do_lst (k := 0) da_nil))
 (dss_cons (os1 := [true, false, false, true, false, false])
 (ds_for (os1 := [true, false, false, true, false, false]) PassesOwn.never rfl (di_range1 (fun h => pi_range1 (by rfl) (c.free 55 rfl) h) (dv_of (de_op op_add4 addD_ok addD_nx de_int (dv_of (dcall (ks := [some 0, none]) (ok_f_law_draw c) rfl hr (by decide) (by rfl) (dc_own (pv 0) (dc_val (de_var (pv 1) rfl) dc_nil)) rfl (by decide)))))) (dg_name (pg_name (i := 4) sc_f_law_space.nd rfl (by first | exact Or.inl rfl | exact Or.inr rfl)) (by decide) (by decide))
 (dss_cons (os1 := [true, false, false, true, false, false])
 (ds_expr (α := Unit) (fun h => ps_expr h) (de_mth (id := "list.append") rfl (pv 3) (de_op op_add4 addD_ok addD_nx (dcall (ks := [some 0, none]) (ok_f_law_pick c) rfl hr (by decide) (by rfl) (dc_own (pv 0) (dc_val (de_of (do_lst (k := 0) (da_cons de_str (da_cons de_str (da_cons de_str (da_cons de_str da_nil)))))) dc_nil)) rfl (by decide)) (dv_of (de_call1 (fun h => pe_callTy call_str_int (by rfl) (c.free 58 rfl) (by first | exact boot_str | exact PySem.boot_str | exact PyProof.Rows.boot_str | exact L2.boot_str) h) strD_ok strD_nx (dv_var (pv 4))))) append_ok (fun h => pe_bm PySem.F.plainAttrs_list PySem.F.slot_list_append PySem.F.type_list_append mt_append (pv 3) h)))
 dss_nil))
 (dss_fz 3 (by decide) (dss_cons (os1 := [false, false, false, false, false, false]) (ds_ret rfl (de_of (do_lc (own := [("name", 5)]) rfl sc_f_law_space.nd (di_seq (dcall (ks := [some 0, none]) (ok_f_law_turned c) rfl hr (by decide) (by rfl) (dc_own (pv 0) (dc_val (de_var (pv 3) rfl) dc_nil)) rfl (by decide))) (blkOk_by (N := N_f_law_space) (sc := defScope (top 40)) (own := [("name", 5)]) (by decide +kernel)) (gt := (gName 5)) (fun _ _ _ _ _ => (pg_name (i := 5) sc_f_law_space.nd rfl (by first | exact Or.inl rfl | exact Or.inr rfl))) (fun _ _ _ _ _ => dts_nil) (fun _ _ _ _ _ => (de_tup (da_cons (de_var (pv 5) rfl) (da_cons (dcall (ks := [some 0, none]) (ok_f_law_draw c) rfl hr (by decide) (by rfl) (dc_own (pv 0) (dc_val (de_op op_add4 addD_ok addD_nx (de_var (pv 2) rfl) (dv_of de_int)) dc_nil)) rfl (by decide)) da_nil)))) (raw_name (by decide) rfl) (by decide)))) dss_nil))))
abbrev N_f_law_split : List Str := ["pool", "space", "many", "boxes", "name", "top", "turn", "spot", "low", "high", "cut", "one", "other"]
theorem sc_f_law_split : FnScope N_f_law_split ["pool", "space", "many"] (defScope (top 41)) := ⟨rfl, rfl, rfl, by decide +kernel, rfl, by decide +kernel, by decide +kernel⟩
def l_f_law_split_1 : SM := (sSeq (sSet 7 (eCall [some 0, none] m_f_law_draw (eConsO 0 (eCons (e1 lenD (eVar 3)) eNil))))
 (sSeq (sSet 4 (e2 ixD (eCall [some 0, none] m_f_law_pick (eConsO 0 (eCons (eVar 1) eNil))) (eRet (.int 0))))
 (sSeq (sAsg (e2 ixD (e2 ixD (eVar 3) (eVar 7)) (eVar 4)) (gTupT 2 (gsCons (gSet 8) (gsCons (gSet 9) gsNil))))
 (sSeq (sIf (e2 (cmpD fun i j => decide (i < j)) (eVar 8) (eVar 9))
 (sSeq (sSet 10 (e2 addD (eVar 8) (eCall [some 0, none] m_f_law_draw (eConsO 0 (eCons (e2 subD (eVar 9) (eVar 8)) eNil)))))
 (sSeq (sSet 11 (e1 dictD (e2 ixD (eVar 3) (eVar 7))))
 (sSeq (sSet 12 (e1 dictD (e2 ixD (eVar 3) (eVar 7))))
 (sSeq (sPut 11 setD1 (eL gTup (eCons (eVar 8) (eCons (eVar 10) eNil))) (eVar 4))
 (sSeq (sPut 12 setD1 (eL gTup (eCons (e2 addD (eVar 10) (eRet (.int 1))) (eCons (eVar 9) eNil))) (eVar 4))
 (sSeq (sSet 3 (e2 addD (e2 addD (eSl slLD (eVar 3) (eRet none) (e1 gI (eVar 7))) (eL gLst (eCons (eVar 11) (eCons (eVar 12) eNil)))) (eSl slLD (eVar 3) (e1 gI (e2 addD (eVar 7) (eRet (.int 1)))) (eRet none))))
 sNil))))))
 sNil)
 sNil))))
def b_f_law_split : SM := (sSeq (sBox 3 1 (gTupT 2 (gsCons (gSet 4) (gsCons (gSet 5) gsNil))) 4 5)
 (sSeq (sFor (e1 rng1D (eVar 2)) (gSet 6) l_f_law_split_1)
 (sSeq (sRet (eVar 3)) sNil)))
def m_f_law_split : List D → Res (D × List D) := fnM 13 3 false b_f_law_split
theorem ok_f_law_split (c : Base fa fn ex K mg) : Ok P w K mg base "_law_split" 5 ["pool", "space", "many"] [true, false, false] false m_f_law_split := mkOk c 34 34 rfl rfl (fun _ _ _ _ _ _ us hl => match us, hl with | [_, _, _], _ => rfl) fun F =>
  fn_D F sc_f_law_split rfl (by decide) (by decide) (kt := []) (os' := [false, false, false, false, false, false, false, false, false, false, false, false, false]) fun cdv A outer s H E hr => (dss_box (b := 3) (sp := 1) (ns := 4) (ts := 5) (vs := [4, 5]) (gt := (L2.gTup _ 2 (gCons (gName 4) (gCons (gName 5) gNil)))) PassesOwn.never rfl (hr_cls hr) (fun h => ps_set (i := 3) sc_f_law_split.nd rfl (by first | exact Or.inl rfl | exact Or.inr rfl) h) (pv 3) (pv 1) (pv 4) (pv 5) (pg_tup rfl (pgs_cons (pg_name (i := 4) sc_f_law_split.nd rfl (by first | exact Or.inl rfl | exact Or.inr rfl)) (pgs_cons (pg_name (i := 5) sc_f_law_split.nd rfl (by first | exact Or.inl rfl | exact Or.inr rfl)) pgs_nil))) (raw_tup (raws_cons (raw_name (by decide) rfl) (raws_cons (raw_name (by decide) rfl) raws_nil))) (by decide) rfl rfl rfl rfl (by decide) (by decide) rfl
 (dss_fz 3 (by decide) (dss_cons (os1 := [true, false, false, false, false, false, false, false, false, false, false, false, false])
 (ds_for (os1 := [true, false, false, false, false, false, false, false, false, false, false, false, false]) PassesOwn.never rfl (di_range1 (fun h => pi_range1 (by rfl) (c.free 55 rfl) h) (dv_var (pv 2))) (dg_name (pg_name (i := 6) sc_f_law_split.nd rfl (by first | exact Or.inl rfl | exact Or.inr rfl)) (by decide) (by decide))
 (dss_cons (os1 := [true, false, false, false, false, false, false, false, false, false, false, false, false])
 (ds_set (tg := .Constant .none 0 ⟨0, 0, 0, 0⟩) (fun h => ps_set (i := 7) sc_f_law_split.nd rfl (by first | exact Or.inl rfl | exact Or.inr rfl) h) (by decide) (by decide) (dcall (ks := [some 0, none]) (ok_f_law_draw c) rfl hr (by decide) (by rfl) (dc_own (pv 0) (dc_val (de_call1 (fun h => pe_callB call_len2 (by rfl) (c.free 51 rfl) (by first | exact boot_len | exact PySem.boot_len | exact PyProof.Rows.boot_len | exact L2.boot_len) h) lenD_ok lenD_nx (dv_var (pv 3))) dc_nil)) rfl (by decide)))
 (dss_cons (os1 := [true, false, false, false, false, false, false, false, false, false, false, false, false])
 (ds_set (tg := .Constant .none 0 ⟨0, 0, 0, 0⟩) (fun h => ps_set (i := 4) sc_f_law_split.nd rfl (by first | exact Or.inl rfl | exact Or.inr rfl) h) (by decide) (by decide) (de_ix (hr_cls hr) (by intro _ _; rfl) (dcall (ks := [some 0, none]) (ok_f_law_pick c) rfl hr (by decide) (by rfl) (dc_own (pv 0) (dc_val (de_var (pv 1) rfl) dc_nil)) rfl (by decide)) (dv_of de_int)))
 (dss_cons (os1 := [true, false, false, false, false, false, false, false, false, false, false, false, false])
 (ds_asg (fun h g => ps_asg h g) (de_ix (hr_cls hr) (by intro _ _; rfl) (de_ix (hr_cls hr) (by intro _ _; rfl) (de_var (pv 3) rfl) (dv_var (pv 7))) (dv_var (pv 4))) (dg_tup rfl (dgs_cons (os1 := [true, false, false, false, false, false, false, false, false, false, false, false, false]) (dg_name (pg_name (i := 8) sc_f_law_split.nd rfl (by first | exact Or.inl rfl | exact Or.inr rfl)) (by decide) (by decide)) (dgs_cons (os1 := [true, false, false, false, false, false, false, false, false, false, false, false, false]) (dg_name (pg_name (i := 9) sc_f_law_split.nd rfl (by first | exact Or.inl rfl | exact Or.inr rfl)) (by decide) (by decide)) dgs_nil))))
 (dss_cons (os1 := [true, false, false, false, false, false, false, false, false, false, false, false, false])
 (ds_if (dt_cmp op_lt (cmpD_ok fun i j => decide (i < j)) (cmpD_nx _) (nomark _) (de_var (pv 8) rfl) (dv_var (pv 9)))
 (dss_cons (os1 := [true, false, false, false, false, false, false, false, false, false, false, false, false])
 (ds_set (tg := .Constant .none 0 ⟨0, 0, 0, 0⟩) (fun h => ps_set (i := 10) sc_f_law_split.nd rfl (by first | exact Or.inl rfl | exact Or.inr rfl) h) (by decide) (by decide) (de_op op_add4 addD_ok addD_nx (de_var (pv 8) rfl) (dv_of (dcall (ks := [some 0, none]) (ok_f_law_draw c) rfl hr (by decide) (by rfl) (dc_own (pv 0) (dc_val (de_op op_sub subD_ok subD_nx (de_var (pv 9) rfl) (dv_var (pv 8))) dc_nil)) rfl (by decide)))))
 (dss_cons (os1 := [true, false, false, false, false, false, false, false, false, false, false, true, false])
 (ds_setO (tg := .Constant .none 0 ⟨0, 0, 0, 0⟩) (fun h => ps_set (i := 11) sc_f_law_split.nd rfl (by first | exact Or.inl rfl | exact Or.inr rfl) h) (by decide) (by decide) (de_call1 (fun h => pe_callTy call_dictD (by rfl) (c.free 47 rfl) (by first | exact boot_dict | exact PySem.boot_dict | exact PyProof.Rows.boot_dict | exact L2.boot_dict) h) dictD_ok dictD_nx (dv_of (de_ix (hr_cls hr) (by intro _ _; rfl) (de_var (pv 3) rfl) (dv_var (pv 7))))))
 (dss_cons (os1 := [true, false, false, false, false, false, false, false, false, false, false, true, true])
 (ds_setO (tg := .Constant .none 0 ⟨0, 0, 0, 0⟩) (fun h => ps_set (i := 12) sc_f_law_split.nd rfl (by first | exact Or.inl rfl | exact Or.inr rfl) h) (by decide) (by decide) (de_call1 (fun h => pe_callTy call_dictD (by rfl) (c.free 47 rfl) (by first | exact boot_dict | exact PySem.boot_dict | exact PyProof.Rows.boot_dict | exact L2.boot_dict) h) dictD_ok dictD_nx (dv_of (de_ix (hr_cls hr) (by intro _ _; rfl) (de_var (pv 3) rfl) (dv_var (pv 7))))))
 (dss_cons (os1 := [true, false, false, false, false, false, false, false, false, false, false, true, true])
 (ds_put rfl (pv 11) (de_tup (da_cons (de_var (pv 8) rfl) (da_cons (de_var (pv 10) rfl) da_nil))) (dv_var (pv 4)) (hr_cls hr) (fun h g => ps_asg h g))
 (dss_cons (os1 := [true, false, false, false, false, false, false, false, false, false, false, true, true])
 (ds_put rfl (pv 12) (de_tup (da_cons (de_op op_add4 addD_ok addD_nx (de_var (pv 10) rfl) (dv_of de_int)) (da_cons (de_var (pv 9) rfl) da_nil))) (dv_var (pv 4)) (hr_cls hr) (fun h g => ps_asg h g))
 (dss_fz 12 (by decide) (dss_fz 11 (by decide) (dss_cons (os1 := [true, false, false, false, false, false, false, false, false, false, false, false, false])
 (ds_set (tg := .Constant .none 0 ⟨0, 0, 0, 0⟩) (fun h => ps_set (i := 3) sc_f_law_split.nd rfl (by first | exact Or.inl rfl | exact Or.inr rfl) h) (by decide) (by decide) (de_op op_add4 addD_ok addD_nx (de_op op_add4 addD_ok addD_nx (de_of (do_slice (de_var (pv 3) rfl) dp_none (dp_some (dv_var (pv 7))))) (dv_of (de_of (do_lst (k := 0) (da_cons (de_var (pv 11) rfl) (da_cons (de_var (pv 12) rfl) da_nil)))))) (dv_of (de_of (do_slice (de_var (pv 3) rfl) (dp_some (dv_of (de_op op_add4 addD_ok addD_nx (de_var (pv 7) rfl) (dv_of de_int)))) dp_none)))))
 dss_nil))))))))
 dss_nil)
 dss_nil)))))
 (dss_cons (os1 := [false, false, false, false, false, false, false, false, false, false, false, false, false]) (ds_ret rfl (de_var (pv 3) rfl)) dss_nil))) (fun h g => ps_asg h g) (hpa := pa_cons pe_int (pa_cons (pv 5) pa_nil)))
abbrev N_f_law_signed : List Str := ["pool", "number"]
theorem sc_f_law_signed : FnScope N_f_law_signed ["pool"] (defScope (top 42)) := ⟨rfl, rfl, rfl, by decide +kernel, rfl, by decide +kernel, by decide +kernel⟩
def b_f_law_signed : SM := (sSeq (sSet 1 (eCall [none, none] m_f_law_ratio (eCons (eCall [some 0, none] m_f_law_draw (eConsO 0 (eCons (eRet (.int 13)) eNil))) (eCons (eCall [some 0, none] m_f_law_pick (eConsO 0 (eCons (eL gLst (eCons (eRet (.int 1)) (eCons (eRet (.int 1)) (eCons (eRet (.int 2)) (eCons (eRet (.int 3)) eNil))))) eNil))) eNil))))
 (sSeq (sRet (eIf (e2 eqD (eCall [some 0, none] m_f_law_draw (eConsO 0 (eCons (eRet (.int 2)) eNil))) (eRet (.int 0))) (eVar 1) (eL gTup (eCons (e1 negD (e2 ixD (eVar 1) (eRet (.int 0)))) (eCons (e2 ixD (eVar 1) (eRet (.int 1))) eNil))))) sNil))
def m_f_law_signed : List D → Res (D × List D) := fnM 2 1 false b_f_law_signed
theorem ok_f_law_signed (c : Base fa fn ex K mg) : Ok P w K mg base "_law_signed" 5 ["pool"] [true] false m_f_law_signed := mkOk c 35 35 rfl rfl (fun _ _ _ _ _ _ us hl => match us, hl with | [_], _ => rfl) fun F =>
  fn_D F sc_f_law_signed rfl (by decide) (by decide) (kt := []) (os' := [false, false]) fun cdv A outer s H E hr => (dss_cons (os1 := [true, false])
 (ds_set (tg := .Constant .none 0 ⟨0, 0, 0, 0⟩) (fun h => ps_set (i := 1) sc_f_law_signed.nd rfl (by first | exact Or.inl rfl | exact Or.inr rfl) h) (by decide) (by decide) (dcall (ks := [none, none]) (ok_f_law_ratio c) rfl hr (by decide) (by rfl) (dc_val (dcall (ks := [some 0, none]) (ok_f_law_draw c) rfl hr (by decide) (by rfl) (dc_own (pv 0) (dc_val de_int dc_nil)) rfl (by decide)) (dc_val (dcall (ks := [some 0, none]) (ok_f_law_pick c) rfl hr (by decide) (by rfl) (dc_own (pv 0) (dc_val (de_of (do_lst (k := 0) (da_cons de_int (da_cons de_int (da_cons de_int (da_cons de_int da_nil)))))) dc_nil)) rfl (by decide)) dc_nil)) rfl (by decide)))
 (dss_cons (os1 := [false, false]) (ds_ret rfl (de_if (dt_cmp (op_eqD (hr_cls2 hr)) eqD_ok eqD_nx (nomark _) (dcall (ks := [some 0, none]) (ok_f_law_draw c) rfl hr (by decide) (by rfl) (dc_own (pv 0) (dc_val de_int dc_nil)) rfl (by decide)) (dv_of de_int)) (de_var (pv 1) rfl) (de_tup (da_cons (de_un un_neg negD_ok negD_nx (dv_of (de_ix (hr_cls hr) (by intro _ _; rfl) (de_var (pv 1) rfl) (dv_of de_int)))) (da_cons (de_ix (hr_cls hr) (by intro _ _; rfl) (de_var (pv 1) rfl) (dv_of de_int)) da_nil))))) dss_nil))
abbrev N_f_law_short : List Str := ["pool", "space", "box", "found", "name", "top"]
theorem sc_f_law_short : FnScope N_f_law_short ["pool", "space", "box"] (defScope (top 43)) := ⟨rfl, rfl, rfl, by decide +kernel, rfl, by decide +kernel, by decide +kernel⟩
def l_f_law_short_1 : SM := (sSeq (sIf (eOr (e2 neD (e2 ixD (eVar 2) (eVar 4)) (eL gTup (eCons (eRet (.int 0)) (eCons (eVar 5) eNil)))) (e2 eqD (eCall [some 0, none] m_f_law_draw (eConsO 0 (eCons (eRet (.int 2)) eNil))) (eRet (.int 0))))
 (sSeq (sPut 3 setD1 (e2 ixD (eVar 2) (eVar 4)) (eVar 4))
 sNil)
 sNil)
 sNil)
def b_f_law_short : SM := (sSeq (sSet 3 (eRet (.dic false [])))
 (sSeq (forA 1 (gTupT 2 (gsCons (gSet 4) (gsCons (gSet 5) gsNil))) l_f_law_short_1)
 (sSeq (sRet (eVar 3)) sNil)))
def m_f_law_short : List D → Res (D × List D) := fnM 6 3 false b_f_law_short
theorem ok_f_law_short (c : Base fa fn ex K mg) : Ok P w K mg base "_law_short" 4 ["pool", "space", "box"] [true, false, false] false m_f_law_short := mkOk c 36 36 rfl rfl (fun _ _ _ _ _ _ us hl => match us, hl with | [_, _, _], _ => rfl) fun F =>
  fn_D F sc_f_law_short rfl (by decide) (by decide) (kt := []) (os' := [false, false, false, false, false, false]) fun cdv A outer s H E hr => (dss_cons (os1 := [true, false, false, true, false, false])
 (ds_setO (tg := .Constant .none 0 ⟨0, 0, 0, 0⟩) (fun h => ps_set (i := 3) sc_f_law_short.nd rfl (by first | exact Or.inl rfl | exact Or.inr rfl) h) (by decide) (by decide) do_newK)
 (dss_cons (os1 := [true, false, false, true, false, false])
 (ds_forA (os1 := [true, false, false, true, false, false]) PassesOwn.never rfl (pv 1) rfl (dg_tup rfl (dgs_cons (os1 := [true, false, false, true, false, false]) (dg_name (pg_name (i := 4) sc_f_law_short.nd rfl (by first | exact Or.inl rfl | exact Or.inr rfl)) (by decide) (by decide)) (dgs_cons (os1 := [true, false, false, true, false, false]) (dg_name (pg_name (i := 5) sc_f_law_short.nd rfl (by first | exact Or.inl rfl | exact Or.inr rfl)) (by decide) (by decide)) dgs_nil)))
 (dss_cons (os1 := [true, false, false, true, false, false])
 (ds_if (PW.pt (dw_or (dt_cmp (op_neD (hr_cls2 hr)) neD_ok neD_nx (nomark _) (de_ix (hr_cls hr) (by intro _ _; rfl) (de_var (pv 2) rfl) (dv_var (pv 4))) (dv_of (de_tup (da_cons de_int (da_cons (de_var (pv 5) rfl) da_nil))))) (pw_or1 (dt_cmp (op_eqD (hr_cls2 hr)) eqD_ok eqD_nx (nomark _) (dcall (ks := [some 0, none]) (ok_f_law_draw c) rfl hr (by decide) (by rfl) (dc_own (pv 0) (dc_val de_int dc_nil)) rfl (by decide)) (dv_of de_int)))))
 (dss_cons (os1 := [true, false, false, true, false, false])
 (ds_put rfl (pv 3) (de_ix (hr_cls hr) (by intro _ _; rfl) (de_var (pv 2) rfl) (dv_var (pv 4))) (dv_var (pv 4)) (hr_cls hr) (fun h g => ps_asg h g))
 dss_nil)
 dss_nil)
 dss_nil))
 (dss_fz 3 (by decide) (dss_cons (os1 := [false, false, false, false, false, false]) (ds_ret rfl (de_var (pv 3) rfl)) dss_nil))))
abbrev N_f_law_entries : List Str := ["pool", "space", "many", "found", "box", "rises", "name", "top"]
theorem sc_f_law_entries : FnScope N_f_law_entries ["pool", "space", "many"] (defScope (top 44)) := ⟨rfl, rfl, rfl, by decide +kernel, rfl, by decide +kernel, by decide +kernel⟩
def l_f_law_entries_1 : SM := (sSeq (sIf (e2 (cmpD fun i j => decide (j < i)) (eCall [some 0, none] m_f_law_draw (eConsO 0 (eCons (eRet (.int 3)) eNil))) (eRet (.int 0)))
 (sSeq (sPut 5 setD1 (eCall [some 0] m_f_law_signed (eConsO 0 eNil)) (eVar 6))
 sNil)
 sNil)
 sNil)
def l_f_law_entries_2 : SM := (sSeq (sSet 5 (eRet (.dic false [])))
 (sSeq (forA 1 (gTupT 2 (gsCons (gSet 6) (gsCons (gSet 7) gsNil))) l_f_law_entries_1)
 (sSeq (sDrop (eMth 3 appendD (eL gTup (eCons (eCall [some 0, none, none] m_f_law_short (eConsO 0 (eCons (eVar 1) (eCons (eVar 4) eNil)))) (eCons (eCall [none, none] m_f_law_add (eCons (eCall [some 0] m_f_law_signed (eConsO 0 eNil)) (eCons (eL gTup (eCons (eCall [some 0, none] m_f_law_draw (eConsO 0 (eCons (eRet (.int 20)) eNil))) (eCons (eRet (.int 1)) eNil))) eNil))) (eCons (eVar 5) eNil))))))
 sNil)))
def b_f_law_entries : SM := (sSeq (sSet 3 (eL gLst eNil))
 (sSeq (sFor (e1 gItems (eCall [some 0, none, none] m_f_law_split (eConsO 0 (eCons (eVar 1) (eCons (eVar 2) eNil))))) (gSet 4) l_f_law_entries_2)
 (sSeq (sRet (eCall [some 0, none] m_f_law_turned (eConsO 0 (eCons (eVar 3) eNil)))) sNil)))
def m_f_law_entries : List D → Res (D × List D) := fnM 8 3 false b_f_law_entries
theorem ok_f_law_entries (c : Base fa fn ex K mg) : Ok P w K mg base "_law_entries" 6 ["pool", "space", "many"] [true, false, false] false m_f_law_entries := mkOk c 37 37 rfl rfl (fun _ _ _ _ _ _ us hl => match us, hl with | [_, _, _], _ => rfl) fun F =>
  fn_D F sc_f_law_entries rfl (by decide) (by decide) (kt := []) (os' := [false, false, false, false, false, false, false, false]) fun cdv A outer s H E hr => (dss_cons (os1 := [true, false, false, true, false, false, false, false])
 (ds_setO (tg := .Constant .none 0 ⟨0, 0, 0, 0⟩) (fun h => ps_set (i := 3) sc_f_law_entries.nd rfl (by first | exact Or.inl rfl | exact Or.inr rfl) h) (by decide) (by decide) (do_lst (k := 0) da_nil))
 (dss_cons (os1 := [true, false, false, true, false, false, false, false])
 (ds_for (os1 := [true, false, false, true, false, false, false, false]) PassesOwn.never rfl (di_seq (dcall (ks := [some 0, none, none]) (ok_f_law_split c) rfl hr (by decide) (by rfl) (dc_own (pv 0) (dc_val (de_var (pv 1) rfl) (dc_val (de_var (pv 2) rfl) dc_nil))) rfl (by decide))) (dg_name (pg_name (i := 4) sc_f_law_entries.nd rfl (by first | exact Or.inl rfl | exact Or.inr rfl)) (by decide) (by decide))
 (dss_cons (os1 := [true, false, false, true, false, true, false, false])
 (ds_setO (tg := .Constant .none 0 ⟨0, 0, 0, 0⟩) (fun h => ps_set (i := 5) sc_f_law_entries.nd rfl (by first | exact Or.inl rfl | exact Or.inr rfl) h) (by decide) (by decide) do_newK)
 (dss_cons (os1 := [true, false, false, true, false, true, false, false])
 (ds_forA (os1 := [true, false, false, true, false, true, false, false]) PassesOwn.never rfl (pv 1) rfl (dg_tup rfl (dgs_cons (os1 := [true, false, false, true, false, true, false, false]) (dg_name (pg_name (i := 6) sc_f_law_entries.nd rfl (by first | exact Or.inl rfl | exact Or.inr rfl)) (by decide) (by decide)) (dgs_cons (os1 := [true, false, false, true, false, true, false, false]) (dg_name (pg_name (i := 7) sc_f_law_entries.nd rfl (by first | exact Or.inl rfl | exact Or.inr rfl)) (by decide) (by decide)) dgs_nil)))
 (dss_cons (os1 := [true, false, false, true, false, true, false, false])
 (ds_if (dt_cmp op_gt (cmpD_ok fun i j => decide (j < i)) (cmpD_nx _) (nomark _) (dcall (ks := [some 0, none]) (ok_f_law_draw c) rfl hr (by decide) (by rfl) (dc_own (pv 0) (dc_val de_int dc_nil)) rfl (by decide)) (dv_of de_int))
 (dss_cons (os1 := [true, false, false, true, false, true, false, false])
 (ds_put rfl (pv 5) (dcall (ks := [some 0]) (ok_f_law_signed c) rfl hr (by decide) (by rfl) (dc_own (pv 0) dc_nil) rfl (by decide)) (dv_var (pv 6)) (hr_cls hr) (fun h g => ps_asg h g))
 dss_nil)
 dss_nil)
 dss_nil))
 (dss_fz 5 (by decide) (dss_cons (os1 := [true, false, false, true, false, false, false, false])
 (ds_expr (α := Unit) (fun h => ps_expr h) (de_mth (id := "list.append") rfl (pv 3) (de_tup (da_cons (dcall (ks := [some 0, none, none]) (ok_f_law_short c) rfl hr (by decide) (by rfl) (dc_own (pv 0) (dc_val (de_var (pv 1) rfl) (dc_val (de_var (pv 4) rfl) dc_nil))) rfl (by decide)) (da_cons (dcall (ks := [none, none]) (ok_f_law_add c) rfl hr (by decide) (by rfl) (dc_val (dcall (ks := [some 0]) (ok_f_law_signed c) rfl hr (by decide) (by rfl) (dc_own (pv 0) dc_nil) rfl (by decide)) (dc_val (de_tup (da_cons (dcall (ks := [some 0, none]) (ok_f_law_draw c) rfl hr (by decide) (by rfl) (dc_own (pv 0) (dc_val de_int dc_nil)) rfl (by decide)) (da_cons de_int da_nil))) dc_nil)) rfl (by decide)) (da_cons (de_var (pv 5) rfl) da_nil)))) append_ok (fun h => pe_bm PySem.F.plainAttrs_list PySem.F.slot_list_append PySem.F.type_list_append mt_append (pv 3) h)))
 dss_nil)))))
 (dss_fz 3 (by decide) (dss_cons (os1 := [false, false, false, false, false, false, false, false]) (ds_ret rfl (dcall (ks := [some 0, none]) (ok_f_law_turned c) rfl hr (by decide) (by rfl) (dc_own (pv 0) (dc_val (de_var (pv 3) rfl) dc_nil)) rfl (by decide))) dss_nil))))
abbrev N_f_law_next : List Str := ["pool"]
theorem sc_f_law_next : FnScope N_f_law_next ["pool"] (defScope (top 45)) := ⟨rfl, rfl, rfl, by decide +kernel, rfl, by decide +kernel, by decide +kernel⟩
def b_f_law_next : SM := (sSeq (sPut 0 setD1 (e2 addD (e2N ixD 0 (eRet (.int 1))) (eRet (.int 1))) (eRet (.int 1)))
 (sSeq (sPut 0 setD1 (eCall [none, none, none] m_f_law_rest (eCons (e2N ixD 0 (eRet (.int 0))) (eCons (e2N ixD 0 (eRet (.int 1))) (eCons (eRet (.int 0)) eNil)))) (eRet (.int 2)))
 (sSeq (sPut 0 setD1 (eRet (.int 0)) (eRet (.int 3)))
 sNil)))
def m_f_law_next : List D → Res (D × List D) := fnM 1 1 false b_f_law_next
theorem ok_f_law_next (c : Base fa fn ex K mg) : Ok P w K mg base "_law_next" 3 ["pool"] [true] false m_f_law_next := mkOk c 38 38 rfl rfl (fun _ _ _ _ _ _ us hl => match us, hl with | [_], _ => rfl) fun F =>
  fn_D F sc_f_law_next rfl (by decide) (by decide) (kt := []) (os' := [true]) fun cdv A outer s H E hr => (dss_cons (os1 := [true])
 (ds_put rfl (pv 0) (de_op op_add4 addD_ok addD_nx (de_ixN (hr_cls hr) (by intro _ _; rfl) (pv 0) (dv_of de_int)) (dv_of de_int)) (dv_of de_int) (hr_cls hr) (fun h g => ps_asg h g))
 (dss_cons (os1 := [true])
 (ds_put rfl (pv 0) (dcall (ks := [none, none, none]) (ok_f_law_rest c) rfl hr (by decide) (by rfl) (dc_val (de_ixN (hr_cls hr) (by intro _ _; rfl) (pv 0) (dv_of de_int)) (dc_val (de_ixN (hr_cls hr) (by intro _ _; rfl) (pv 0) (dv_of de_int)) (dc_val de_int dc_nil))) rfl (by decide)) (dv_of de_int) (hr_cls hr) (fun h g => ps_asg h g))
 (dss_cons (os1 := [true])
 (ds_put rfl (pv 0) de_int (dv_of de_int) (hr_cls hr) (fun h g => ps_asg h g))
 dss_nil)))
abbrev N_f_law_baskets : List Str := ["space", "found", "name", "top", "more", "basket", "place", "new"]
theorem sc_f_law_baskets : FnScope N_f_law_baskets ["space"] (defScope (top 46)) := ⟨rfl, rfl, rfl, by decide +kernel, rfl, by decide +kernel, by decide +kernel⟩
def l_f_law_baskets_1 : SM := (sSeq (sSet 7 (e1 dictD (eVar 5)))
 (sSeq (sPut 7 setD1 (eVar 6) (eVar 2))
 (sSeq (sDrop (eMth 4 appendD (eVar 7)))
 sNil)))
def l_f_law_baskets_2 : SM := (sSeq (sFor (e1 rng1D (e2 addD (eVar 3) (eRet (.int 1)))) (gSet 6) l_f_law_baskets_1)
 sNil)
def l_f_law_baskets_3 : SM := (sSeq (sSet 4 (eL gLst eNil))
 (sSeq (forA 1 (gSet 5) l_f_law_baskets_2)
 (sSeq (sSet 1 (eVar 4))
 sNil)))
def b_f_law_baskets : SM := (sSeq (sSet 1 (eL gLst (eCons (eRet (.dic false [])) eNil)))
 (sSeq (sFor (e1 gItems (e1 sortedD (eVar 0))) (gTupT 2 (gsCons (gSet 2) (gsCons (gSet 3) gsNil))) l_f_law_baskets_3)
 (sSeq (sRet (eVar 1)) sNil)))
def m_f_law_baskets : List D → Res (D × List D) := fnM 8 1 false b_f_law_baskets
theorem ok_f_law_baskets (c : Base fa fn ex K mg) : Ok P w K mg base "_law_baskets" 1 ["space"] [false] false m_f_law_baskets := mkOk c 39 39 rfl rfl (fun _ _ _ _ _ _ us hl => match us, hl with | [_], _ => rfl) fun F =>
  fn_D F sc_f_law_baskets rfl (by decide) (by decide) (kt := []) (os' := [false, false, false, false, false, false, false, false]) fun cdv A outer s H E hr => (dss_cons (os1 := [false, false, false, false, false, false, false, false])
 (ds_set (tg := .Constant .none 0 ⟨0, 0, 0, 0⟩) (fun h => ps_set (i := 1) sc_f_law_baskets.nd rfl (by first | exact Or.inl rfl | exact Or.inr rfl) h) (by decide) (by decide) (de_of (do_lst (k := 0) (da_cons (de_of do_newK) da_nil))))
 (dss_cons (os1 := [false, false, false, false, false, false, false, false])
 (ds_for (os1 := [false, false, false, false, false, false, false, false]) PassesOwn.never rfl (di_seq (de_of (de_call1 (fun h => pe_callB (call_sortX rfl (hr_cls2 hr)) (by rfl) (c.free 57 rfl) (by first | exact boot_sorted | exact PySem.boot_sorted | exact PyProof.Rows.boot_sorted | exact L2.boot_sorted) h) sortedD_ok sortedD_nx (dv_var (pv 0))))) (dg_tup rfl (dgs_cons (os1 := [false, false, false, false, false, false, false, false]) (dg_name (pg_name (i := 2) sc_f_law_baskets.nd rfl (by first | exact Or.inl rfl | exact Or.inr rfl)) (by decide) (by decide)) (dgs_cons (os1 := [false, false, false, false, false, false, false, false]) (dg_name (pg_name (i := 3) sc_f_law_baskets.nd rfl (by first | exact Or.inl rfl | exact Or.inr rfl)) (by decide) (by decide)) dgs_nil)))
 (dss_cons (os1 := [false, false, false, false, true, false, false, false])
 (ds_setO (tg := .Constant .none 0 ⟨0, 0, 0, 0⟩) (fun h => ps_set (i := 4) sc_f_law_baskets.nd rfl (by first | exact Or.inl rfl | exact Or.inr rfl) h) (by decide) (by decide) (do_lst (k := 0) da_nil))
 (dss_cons (os1 := [false, false, false, false, true, false, false, false])
 (ds_forA (os1 := [false, false, false, false, true, false, false, false]) PassesOwn.never rfl (pv 1) rfl (dg_name (pg_name (i := 5) sc_f_law_baskets.nd rfl (by first | exact Or.inl rfl | exact Or.inr rfl)) (by decide) (by decide))
 (dss_cons (os1 := [false, false, false, false, true, false, false, false])
 (ds_for (os1 := [false, false, false, false, true, false, false, false]) PassesOwn.never rfl (di_range1 (fun h => pi_range1 (by rfl) (c.free 55 rfl) h) (dv_of (de_op op_add4 addD_ok addD_nx (de_var (pv 3) rfl) (dv_of de_int)))) (dg_name (pg_name (i := 6) sc_f_law_baskets.nd rfl (by first | exact Or.inl rfl | exact Or.inr rfl)) (by decide) (by decide))
 (dss_cons (os1 := [false, false, false, false, true, false, false, true])
 (ds_setO (tg := .Constant .none 0 ⟨0, 0, 0, 0⟩) (fun h => ps_set (i := 7) sc_f_law_baskets.nd rfl (by first | exact Or.inl rfl | exact Or.inr rfl) h) (by decide) (by decide) (de_call1 (fun h => pe_callTy call_dictD (by rfl) (c.free 47 rfl) (by first | exact boot_dict | exact PySem.boot_dict | exact PyProof.Rows.boot_dict | exact L2.boot_dict) h) dictD_ok dictD_nx (dv_var (pv 5))))
 (dss_cons (os1 := [false, false, false, false, true, false, false, true])
 (ds_put rfl (pv 7) (de_var (pv 6) rfl) (dv_var (pv 2)) (hr_cls hr) (fun h g => ps_asg h g))
 (dss_fz 7 (by decide) (dss_cons (os1 := [false, false, false, false, true, false, false, false])
 (ds_expr (α := Unit) (fun h => ps_expr h) (de_mth (id := "list.append") rfl (pv 4) (de_var (pv 7) rfl) append_ok (fun h => pe_bm PySem.F.plainAttrs_list PySem.F.slot_list_append PySem.F.type_list_append mt_append (pv 4) h)))
 dss_nil)))))
 dss_nil))
 (dss_fz 4 (by decide) (dss_cons (os1 := [false, false, false, false, false, false, false, false])
 (ds_set (tg := .Constant .none 0 ⟨0, 0, 0, 0⟩) (fun h => ps_set (i := 1) sc_f_law_baskets.nd rfl (by first | exact Or.inl rfl | exact Or.inr rfl) h) (by decide) (by decide) (de_var (pv 4) rfl))
 dss_nil)))))
 (dss_cons (os1 := [false, false, false, false, false, false, false, false]) (ds_ret rfl (de_var (pv 1) rfl)) dss_nil)))
abbrev N_f_law_same : List Str := ["actual", "due", "key", "k"]
theorem sc_f_law_same : FnScope N_f_law_same ["actual", "due"] (defScope (top 47)) := ⟨rfl, rfl, rfl, by decide +kernel, rfl, by decide +kernel, by decide +kernel⟩
def l_f_law_same_1 (rec : List D → Res (D × List D)) : SM := (sSeq (sIf (eOr (e2 notInD (eVar 2) (eVar 0)) (eNot (e1 gBl (eCall [none, none] rec (eCons (e2 ixD (eVar 0) (eVar 2)) (eCons (e2 ixD (eVar 1) (eVar 2)) eNil))))))
 (sSeq (sRet (eRet (.bl false))) sNil)
 sNil)
 sNil)
def l_f_law_same_2 (rec : List D → Res (D × List D)) : SM := (sSeq (sIf (eNot (e1 gBl (eCall [none, none] rec (eCons (e2 ixD (eVar 0) (eVar 3)) (eCons (e2 ixD (eVar 1) (eVar 3)) eNil)))))
 (sSeq (sRet (eRet (.bl false))) sNil)
 sNil)
 sNil)
def b_f_law_same (rec : List D → Res (D × List D)) : SM := (sSeq (sIf (e2 isC (eVar 1) (eRet .non))
 (sSeq (sRet (eBl (e2 isC (eVar 0) (eRet .non)))) sNil)
 sNil)
 (sSeq (sIf (e2 isC (eVar 1) (eRet (.bl true)))
 (sSeq (sRet (eBl (e2 isC (eVar 0) (eRet (.bl true))))) sNil)
 sNil)
 (sSeq (sIf (e2 isC (eVar 1) (eRet (.bl false)))
 (sSeq (sRet (eBl (e2 isC (eVar 0) (eRet (.bl false))))) sNil)
 sNil)
 (sSeq (sIf (e1 gBl (e1 (isiD "int") (eVar 1)))
 (sSeq (sRet (eBl (eAnd (eAsB (e1 (isiD "int") (eVar 0))) (eAnd (eNot (eAsB (e1 (isiD "bool") (eVar 0)))) (e2 eqD (eVar 0) (eVar 1)))))) sNil)
 sNil)
 (sSeq (sIf (e1 gBl (e1 (isiD "str") (eVar 1)))
 (sSeq (sRet (eBl (eAnd (eAsB (e1 (isiD "str") (eVar 0))) (e2 eqD (eVar 0) (eVar 1))))) sNil)
 sNil)
 (sSeq (sIf (e1 gBl (e1 (isiD "dict") (eVar 1)))
 (sSeq (sIf (eOr (eNot (e1 gBl (e1 (isiD "dict") (eVar 0)))) (e2 neD (e1 lenD (eVar 0)) (e1 lenD (eVar 1))))
 (sSeq (sRet (eRet (.bl false))) sNil)
 sNil)
 (sSeq (forA 1 (gSet 2) (l_f_law_same_1 rec))
 (sSeq (sRet (eRet (.bl true))) sNil)))
 sNil)
 (sSeq (sIf (eOr (e2 neD (e1 (isiD "tuple") (eVar 0)) (e1 (isiD "tuple") (eVar 1))) (e2 neD (e1 (isiD "list") (eVar 0)) (e1 (isiD "list") (eVar 1))))
 (sSeq (sRet (eRet (.bl false))) sNil)
 sNil)
 (sSeq (sIf (e2 neD (e1 lenD (eVar 0)) (e1 lenD (eVar 1)))
 (sSeq (sRet (eRet (.bl false))) sNil)
 sNil)
 (sSeq (sFor (e1 rng1D (e1 lenD (eVar 1))) (gSet 3) (l_f_law_same_2 rec))
 (sSeq (sRet (eRet (.bl true))) sNil))))))))))
def m_f_law_same : Nat → List D → Res (D × List D)
  | 0 => fun _ => .bad
  | n + 1 => fnM 4 2 false (b_f_law_same (m_f_law_same n))
theorem ok_f_law_same (c : Base fa fn ex K mg) : ∀ n : Nat, Ok P w K mg base "_law_same" (0 + n + 1) ["actual", "due"] [false, false] false (m_f_law_same n)
  | 0 => mkOk0 c 40 40 rfl rfl sc_f_law_same rfl (fun _ _ _ _ _ _ us hl => match us, hl with | [_, _], _ => rfl)
  | n + 1 => by
    have ih := ok_f_law_same c n
    exact mkOk c 40 40 rfl rfl (fun _ _ _ _ _ _ us hl => match us, hl with | [_, _], _ => rfl) fun F => fn_D F sc_f_law_same rfl (by decide) (by decide) (kt := []) (os' := [false, false, false, false]) fun cdv A outer s H E hr => (dss_cons (os1 := [false, false, false, false])
 (ds_if (dt_cmp op_isC isC_ok isC_nx (nomark _) (de_var (pv 1) rfl) (dv_of de_non))
 (dss_cons (os1 := [false, false, false, false]) (ds_ret rfl (dv_cmp op_isC isC_ok isC_nx (nomark _) (de_var (pv 0) rfl) (dv_of de_non))) dss_nil)
 dss_nil)
 (dss_cons (os1 := [false, false, false, false])
 (ds_if (dt_cmp op_isC isC_ok isC_nx (nomark _) (de_var (pv 1) rfl) (dv_of de_bl))
 (dss_cons (os1 := [false, false, false, false]) (ds_ret rfl (dv_cmp op_isC isC_ok isC_nx (nomark _) (de_var (pv 0) rfl) (dv_of de_bl))) dss_nil)
 dss_nil)
 (dss_cons (os1 := [false, false, false, false])
 (ds_if (dt_cmp op_isC isC_ok isC_nx (nomark _) (de_var (pv 1) rfl) (dv_of de_bl))
 (dss_cons (os1 := [false, false, false, false]) (ds_ret rfl (dv_cmp op_isC isC_ok isC_nx (nomark _) (de_var (pv 0) rfl) (dv_of de_bl))) dss_nil)
 dss_nil)
 (dss_cons (os1 := [false, false, false, false])
 (ds_if (dt_val (de_isi (T := "int") (fun h => pe_callB call_isiD (by rfl) (c.free 50 rfl) (by first | exact boot_isinstance | exact PySem.boot_isinstance | exact PyProof.Rows.boot_isinstance | exact L2.boot_isinstance) h) (dv_var (pv 1)) (pe_bltn (by rfl) (c.free 49 rfl) (by first | exact boot_int | exact PySem.boot_int | exact PyProof.Rows.boot_int | exact L2.boot_int) rfl)))
 (dss_cons (os1 := [false, false, false, false]) (ds_ret rfl (de_and (dv_asb (de_isi (T := "int") (fun h => pe_callB call_isiD (by rfl) (c.free 50 rfl) (by first | exact boot_isinstance | exact PySem.boot_isinstance | exact PyProof.Rows.boot_isinstance | exact L2.boot_isinstance) h) (dv_var (pv 0)) (pe_bltn (by rfl) (c.free 49 rfl) (by first | exact boot_int | exact PySem.boot_int | exact PyProof.Rows.boot_int | exact L2.boot_int) rfl))) (de_and (de_not (dv_asb (de_isi (T := "bool") (fun h => pe_callB call_isiD (by rfl) (c.free 50 rfl) (by first | exact boot_isinstance | exact PySem.boot_isinstance | exact PyProof.Rows.boot_isinstance | exact L2.boot_isinstance) h) (dv_var (pv 0)) (pe_bltn (by rfl) (c.free 46 rfl) (by first | exact boot_bool | exact PySem.boot_bool | exact PyProof.Rows.boot_bool | exact L2.boot_bool) rfl)))) (pe_one (dv_cmp (op_eqD (hr_cls2 hr)) eqD_ok eqD_nx (nomark _) (de_var (pv 0) rfl) (dv_var (pv 1))))))) dss_nil)
 dss_nil)
 (dss_cons (os1 := [false, false, false, false])
 (ds_if (dt_val (de_isi (T := "str") (fun h => pe_callB call_isiD (by rfl) (c.free 50 rfl) (by first | exact boot_isinstance | exact PySem.boot_isinstance | exact PyProof.Rows.boot_isinstance | exact L2.boot_isinstance) h) (dv_var (pv 1)) (pe_bltn (by rfl) (c.free 58 rfl) (by first | exact boot_str | exact PySem.boot_str | exact PyProof.Rows.boot_str | exact L2.boot_str) rfl)))
 (dss_cons (os1 := [false, false, false, false]) (ds_ret rfl (de_and (dv_asb (de_isi (T := "str") (fun h => pe_callB call_isiD (by rfl) (c.free 50 rfl) (by first | exact boot_isinstance | exact PySem.boot_isinstance | exact PyProof.Rows.boot_isinstance | exact L2.boot_isinstance) h) (dv_var (pv 0)) (pe_bltn (by rfl) (c.free 58 rfl) (by first | exact boot_str | exact PySem.boot_str | exact PyProof.Rows.boot_str | exact L2.boot_str) rfl))) (pe_one (dv_cmp (op_eqD (hr_cls2 hr)) eqD_ok eqD_nx (nomark _) (de_var (pv 0) rfl) (dv_var (pv 1)))))) dss_nil)
 dss_nil)
 (dss_cons (os1 := [false, false, false, false])
 (ds_if (dt_val (de_isi (T := "dict") (fun h => pe_callB call_isiD (by rfl) (c.free 50 rfl) (by first | exact boot_isinstance | exact PySem.boot_isinstance | exact PyProof.Rows.boot_isinstance | exact L2.boot_isinstance) h) (dv_var (pv 1)) (pe_bltn (by rfl) (c.free 47 rfl) (by first | exact boot_dict | exact PySem.boot_dict | exact PyProof.Rows.boot_dict | exact L2.boot_dict) rfl)))
 (dss_cons (os1 := [false, false, false, false])
 (ds_if (PW.pt (dw_or (dt_not (dt_val (de_isi (T := "dict") (fun h => pe_callB call_isiD (by rfl) (c.free 50 rfl) (by first | exact boot_isinstance | exact PySem.boot_isinstance | exact PyProof.Rows.boot_isinstance | exact L2.boot_isinstance) h) (dv_var (pv 0)) (pe_bltn (by rfl) (c.free 47 rfl) (by first | exact boot_dict | exact PySem.boot_dict | exact PyProof.Rows.boot_dict | exact L2.boot_dict) rfl)))) (pw_or1 (dt_cmp (op_neD (hr_cls2 hr)) neD_ok neD_nx (nomark _) (de_call1 (fun h => pe_callB call_len2 (by rfl) (c.free 51 rfl) (by first | exact boot_len | exact PySem.boot_len | exact PyProof.Rows.boot_len | exact L2.boot_len) h) lenD_ok lenD_nx (dv_var (pv 0))) (dv_of (de_call1 (fun h => pe_callB call_len2 (by rfl) (c.free 51 rfl) (by first | exact boot_len | exact PySem.boot_len | exact PyProof.Rows.boot_len | exact L2.boot_len) h) lenD_ok lenD_nx (dv_var (pv 1))))))))
 (dss_cons (os1 := [false, false, false, false]) (ds_ret rfl de_bl) dss_nil)
 dss_nil)
 (dss_cons (os1 := [false, false, false, false])
 (ds_forA (os1 := [false, false, false, false]) PassesOwn.never rfl (pv 1) rfl (dg_name (pg_name (i := 2) sc_f_law_same.nd rfl (by first | exact Or.inl rfl | exact Or.inr rfl)) (by decide) (by decide))
 (dss_cons (os1 := [false, false, false, false])
 (ds_if (PW.pt (dw_or (dt_cmp (op_notIn3 (hr_cls hr)) notInD_ok notInD_nx (by with_unfolding_all rfl) (de_var (pv 2) rfl) (dv_var (pv 0))) (pw_or1 (dt_not (dt_val (dcall (ks := [none, none]) ih rfl hr (Nat.le_refl _) (by rfl) (dc_val (de_ix (hr_cls hr) (by intro _ _; rfl) (de_var (pv 0) rfl) (dv_var (pv 2))) (dc_val (de_ix (hr_cls hr) (by intro _ _; rfl) (de_var (pv 1) rfl) (dv_var (pv 2))) dc_nil)) rfl (by decide)))))))
 (dss_cons (os1 := [false, false, false, false]) (ds_ret rfl de_bl) dss_nil)
 dss_nil)
 dss_nil))
 (dss_cons (os1 := [false, false, false, false]) (ds_ret rfl de_bl) dss_nil)))
 dss_nil)
 (dss_cons (os1 := [false, false, false, false])
 (ds_if (PW.pt (dw_or (dt_cmp (op_neD (hr_cls2 hr)) neD_ok neD_nx (nomark _) (de_isi (T := "tuple") (fun h => pe_callB call_isiD (by rfl) (c.free 50 rfl) (by first | exact boot_isinstance | exact PySem.boot_isinstance | exact PyProof.Rows.boot_isinstance | exact L2.boot_isinstance) h) (dv_var (pv 0)) (pe_bltn (by rfl) (c.free 59 rfl) (by first | exact boot_tuple | exact PySem.boot_tuple | exact PyProof.Rows.boot_tuple | exact L2.boot_tuple) rfl)) (dv_of (de_isi (T := "tuple") (fun h => pe_callB call_isiD (by rfl) (c.free 50 rfl) (by first | exact boot_isinstance | exact PySem.boot_isinstance | exact PyProof.Rows.boot_isinstance | exact L2.boot_isinstance) h) (dv_var (pv 1)) (pe_bltn (by rfl) (c.free 59 rfl) (by first | exact boot_tuple | exact PySem.boot_tuple | exact PyProof.Rows.boot_tuple | exact L2.boot_tuple) rfl)))) (pw_or1 (dt_cmp (op_neD (hr_cls2 hr)) neD_ok neD_nx (nomark _) (de_isi (T := "list") (fun h => pe_callB call_isiD (by rfl) (c.free 50 rfl) (by first | exact boot_isinstance | exact PySem.boot_isinstance | exact PyProof.Rows.boot_isinstance | exact L2.boot_isinstance) h) (dv_var (pv 0)) (pe_bltn (by rfl) (c.free 52 rfl) (by first | exact boot_list | exact PySem.boot_list | exact PyProof.Rows.boot_list | exact L2.boot_list) rfl)) (dv_of (de_isi (T := "list") (fun h => pe_callB call_isiD (by rfl) (c.free 50 rfl) (by first | exact boot_isinstance | exact PySem.boot_isinstance | exact PyProof.Rows.boot_isinstance | exact L2.boot_isinstance) h) (dv_var (pv 1)) (pe_bltn (by rfl) (c.free 52 rfl) (by first | exact boot_list | exact PySem.boot_list | exact PyProof.Rows.boot_list | exact L2.boot_list) rfl)))))))
 (dss_cons (os1 := [false, false, false, false]) (ds_ret rfl de_bl) dss_nil)
 dss_nil)
 (dss_cons (os1 := [false, false, false, false])
 (ds_if (dt_cmp (op_neD (hr_cls2 hr)) neD_ok neD_nx (nomark _) (de_call1 (fun h => pe_callB call_len2 (by rfl) (c.free 51 rfl) (by first | exact boot_len | exact PySem.boot_len | exact PyProof.Rows.boot_len | exact L2.boot_len) h) lenD_ok lenD_nx (dv_var (pv 0))) (dv_of (de_call1 (fun h => pe_callB call_len2 (by rfl) (c.free 51 rfl) (by first | exact boot_len | exact PySem.boot_len | exact PyProof.Rows.boot_len | exact L2.boot_len) h) lenD_ok lenD_nx (dv_var (pv 1)))))
 (dss_cons (os1 := [false, false, false, false]) (ds_ret rfl de_bl) dss_nil)
 dss_nil)
 (dss_cons (os1 := [false, false, false, false])
 (ds_for (os1 := [false, false, false, false]) PassesOwn.never rfl (di_range1 (fun h => pi_range1 (by rfl) (c.free 55 rfl) h) (dv_of (de_call1 (fun h => pe_callB call_len2 (by rfl) (c.free 51 rfl) (by first | exact boot_len | exact PySem.boot_len | exact PyProof.Rows.boot_len | exact L2.boot_len) h) lenD_ok lenD_nx (dv_var (pv 1))))) (dg_name (pg_name (i := 3) sc_f_law_same.nd rfl (by first | exact Or.inl rfl | exact Or.inr rfl)) (by decide) (by decide))
 (dss_cons (os1 := [false, false, false, false])
 (ds_if (dt_not (dt_val (dcall (ks := [none, none]) ih rfl hr (Nat.le_refl _) (by rfl) (dc_val (de_ix (hr_cls hr) (by intro _ _; rfl) (de_var (pv 0) rfl) (dv_var (pv 3))) (dc_val (de_ix (hr_cls hr) (by intro _ _; rfl) (de_var (pv 1) rfl) (dv_var (pv 3))) dc_nil)) rfl (by decide))))
 (dss_cons (os1 := [false, false, false, false]) (ds_ret rfl de_bl) dss_nil)
 dss_nil)
 dss_nil))
 (dss_cons (os1 := [false, false, false, false]) (ds_ret rfl de_bl) dss_nil))))))))))
abbrev N_f_law_row : List Str := ["basket", "name"]
theorem sc_f_law_row : FnScope N_f_law_row ["basket"] (defScope (top 48)) := ⟨rfl, rfl, rfl, by decide +kernel, rfl, by decide +kernel, by decide +kernel⟩
def b_f_law_row : SM := (sSeq (sRet (eComp [1] (e1 gItems (e1 sortedD (eVar 0))) (gSet 1) eYes (e2 ixD (eVar 0) (eVar 1)))) sNil)
def m_f_law_row : List D → Res (D × List D) := fnM 2 1 false b_f_law_row
theorem ok_f_law_row (c : Base fa fn ex K mg) : Ok P w K mg base "_law_row" 1 ["basket"] [false] false m_f_law_row := mkOk c 41 41 rfl rfl (fun _ _ _ _ _ _ us hl => match us, hl with | [_], _ => rfl) fun F =>
  fn_D F sc_f_law_row rfl (by decide) (by decide) (kt := []) (os' := [false, false]) fun cdv A outer s H E hr => (dss_cons (os1 := [false, false]) (ds_ret rfl (de_of (do_lc (own := [("name", 1)]) rfl sc_f_law_row.nd (di_seq (de_of (de_call1 (fun h => pe_callB (call_sortX rfl (hr_cls2 hr)) (by rfl) (c.free 57 rfl) (by first | exact boot_sorted | exact PySem.boot_sorted | exact PyProof.Rows.boot_sorted | exact L2.boot_sorted) h) sortedD_ok sortedD_nx (dv_var (pv 0))))) (blkOk_by (N := N_f_law_row) (sc := defScope (top 48)) (own := [("name", 1)]) (by decide +kernel)) (gt := (gName 1)) (fun _ _ _ _ _ => (pg_name (i := 1) sc_f_law_row.nd rfl (by first | exact Or.inl rfl | exact Or.inr rfl))) (fun _ _ _ _ _ => dts_nil) (fun _ _ _ _ _ => (de_ix (hr_cls hr) (by intro _ _; rfl) (de_var (pv 0) rfl) (dv_var (pv 1)))) (raw_name (by decide) rfl) (by decide)))) dss_nil)
abbrev N_f_law_corners : List Str := ["space", "box", "need", "found", "name", "top", "low", "high", "more", "basket", "place", "new"]
theorem sc_f_law_corners : FnScope N_f_law_corners ["space", "box", "need"] (defScope (top 49)) := ⟨rfl, rfl, rfl, by decide +kernel, rfl, by decide +kernel, by decide +kernel⟩
def l_f_law_corners_1 : SM := (sSeq (sSet 11 (e1 dictD (eVar 9)))
 (sSeq (sPut 11 setD1 (eVar 10) (eVar 4))
 (sSeq (sDrop (eMth 8 appendD (eVar 11)))
 sNil)))
def l_f_law_corners_2 : SM := (sSeq (sFor (e1 gItems (eIf (e2 (cmpD fun i j => decide (i < j)) (eVar 6) (eVar 7)) (eL gLst (eCons (eVar 6) (eCons (eVar 7) eNil))) (eL gLst (eCons (eVar 6) eNil)))) (gSet 10) l_f_law_corners_1)
 sNil)
def l_f_law_corners_3 : SM := (sSeq (sAsg (eIf (e2 inD (eVar 4) (eVar 1)) (e2 ixD (eVar 1) (eVar 4)) (eL gTup (eCons (eRet (.int 0)) (eCons (eVar 5) eNil)))) (gTupT 2 (gsCons (gSet 6) (gsCons (gSet 7) gsNil))))
 (sSeq (sSet 6 (e2 maxD (eVar 6) (e2 ixD (eVar 2) (eVar 4))))
 (sSeq (sSet 8 (eL gLst eNil))
 (sSeq (sFor (e1 gItems (eIf (e2 (cmpD fun i j => decide (i ≤ j)) (eVar 6) (eVar 7)) (eVar 3) (eL gLst eNil))) (gSet 9) l_f_law_corners_2)
 (sSeq (sSet 3 (eVar 8))
 sNil)))))
def b_f_law_corners : SM := (sSeq (sSet 3 (eL gLst (eCons (eRet (.dic false [])) eNil)))
 (sSeq (sFor (e1 gItems (e1 sortedD (eVar 0))) (gTupT 2 (gsCons (gSet 4) (gsCons (gSet 5) gsNil))) l_f_law_corners_3)
 (sSeq (sRet (eVar 3)) sNil)))
def m_f_law_corners : List D → Res (D × List D) := fnM 12 3 false b_f_law_corners
theorem ok_f_law_corners (c : Base fa fn ex K mg) : Ok P w K mg base "_law_corners" 1 ["space", "box", "need"] [false, false, false] false m_f_law_corners := mkOk c 42 42 rfl rfl (fun _ _ _ _ _ _ us hl => match us, hl with | [_, _, _], _ => rfl) fun F =>
  fn_D F sc_f_law_corners rfl (by decide) (by decide) (kt := []) (os' := [false, false, false, false, false, false, false, false, false, false, false, false]) fun cdv A outer s H E hr => (dss_cons (os1 := [false, false, false, false, false, false, false, false, false, false, false, false])
 (ds_set (tg := .Constant .none 0 ⟨0, 0, 0, 0⟩) (fun h => ps_set (i := 3) sc_f_law_corners.nd rfl (by first | exact Or.inl rfl | exact Or.inr rfl) h) (by decide) (by decide) (de_of (do_lst (k := 0) (da_cons (de_of do_newK) da_nil))))
 (dss_cons (os1 := [false, false, false, false, false, false, false, false, false, false, false, false])
 (ds_for (os1 := [false, false, false, false, false, false, false, false, false, false, false, false]) PassesOwn.never rfl (di_seq (de_of (de_call1 (fun h => pe_callB (call_sortX rfl (hr_cls2 hr)) (by rfl) (c.free 57 rfl) (by first | exact boot_sorted | exact PySem.boot_sorted | exact PyProof.Rows.boot_sorted | exact L2.boot_sorted) h) sortedD_ok sortedD_nx (dv_var (pv 0))))) (dg_tup rfl (dgs_cons (os1 := [false, false, false, false, false, false, false, false, false, false, false, false]) (dg_name (pg_name (i := 4) sc_f_law_corners.nd rfl (by first | exact Or.inl rfl | exact Or.inr rfl)) (by decide) (by decide)) (dgs_cons (os1 := [false, false, false, false, false, false, false, false, false, false, false, false]) (dg_name (pg_name (i := 5) sc_f_law_corners.nd rfl (by first | exact Or.inl rfl | exact Or.inr rfl)) (by decide) (by decide)) dgs_nil)))
 (dss_cons (os1 := [false, false, false, false, false, false, false, false, false, false, false, false])
 (ds_asg (fun h g => ps_asg h g) (de_if (dt_cmp (op_in3 (hr_cls hr)) inD_ok inD_nx (by with_unfolding_all rfl) (de_var (pv 4) rfl) (dv_var (pv 1))) (de_ix (hr_cls hr) (by intro _ _; rfl) (de_var (pv 1) rfl) (dv_var (pv 4))) (de_tup (da_cons de_int (da_cons (de_var (pv 5) rfl) da_nil)))) (dg_tup rfl (dgs_cons (os1 := [false, false, false, false, false, false, false, false, false, false, false, false]) (dg_name (pg_name (i := 6) sc_f_law_corners.nd rfl (by first | exact Or.inl rfl | exact Or.inr rfl)) (by decide) (by decide)) (dgs_cons (os1 := [false, false, false, false, false, false, false, false, false, false, false, false]) (dg_name (pg_name (i := 7) sc_f_law_corners.nd rfl (by first | exact Or.inl rfl | exact Or.inr rfl)) (by decide) (by decide)) dgs_nil))))
 (dss_cons (os1 := [false, false, false, false, false, false, false, false, false, false, false, false])
 (ds_set (tg := .Constant .none 0 ⟨0, 0, 0, 0⟩) (fun h => ps_set (i := 6) sc_f_law_corners.nd rfl (by first | exact Or.inl rfl | exact Or.inr rfl) h) (by decide) (by decide) (de_call2 (fun h => pe_callB (call_max2 rfl) (by rfl) (c.free 53 rfl) (by first | exact boot_max | exact PySem.boot_max | exact PyProof.Rows.boot_max | exact L2.boot_max) h) maxD_ok maxD_nx (de_var (pv 6) rfl) (dv_of (de_ix (hr_cls hr) (by intro _ _; rfl) (de_var (pv 2) rfl) (dv_var (pv 4))))))
 (dss_cons (os1 := [false, false, false, false, false, false, false, false, true, false, false, false])
 (ds_setO (tg := .Constant .none 0 ⟨0, 0, 0, 0⟩) (fun h => ps_set (i := 8) sc_f_law_corners.nd rfl (by first | exact Or.inl rfl | exact Or.inr rfl) h) (by decide) (by decide) (do_lst (k := 0) da_nil))
 (dss_cons (os1 := [false, false, false, false, false, false, false, false, true, false, false, false])
 (ds_for (os1 := [false, false, false, false, false, false, false, false, true, false, false, false]) PassesOwn.never rfl (di_seq (de_if (dt_cmp op_le (cmpD_ok fun i j => decide (i ≤ j)) (cmpD_nx _) (nomark _) (de_var (pv 6) rfl) (dv_var (pv 7))) (de_var (pv 3) rfl) (de_of (do_lst (k := 0) da_nil)))) (dg_name (pg_name (i := 9) sc_f_law_corners.nd rfl (by first | exact Or.inl rfl | exact Or.inr rfl)) (by decide) (by decide))
 (dss_cons (os1 := [false, false, false, false, false, false, false, false, true, false, false, false])
 (ds_for (os1 := [false, false, false, false, false, false, false, false, true, false, false, false]) PassesOwn.never rfl (di_seq (de_if (dt_cmp op_lt (cmpD_ok fun i j => decide (i < j)) (cmpD_nx _) (nomark _) (de_var (pv 6) rfl) (dv_var (pv 7))) (de_of (do_lst (k := 0) (da_cons (de_var (pv 6) rfl) (da_cons (de_var (pv 7) rfl) da_nil)))) (de_of (do_lst (k := 0) (da_cons (de_var (pv 6) rfl) da_nil))))) (dg_name (pg_name (i := 10) sc_f_law_corners.nd rfl (by first | exact Or.inl rfl | exact Or.inr rfl)) (by decide) (by decide))
 (dss_cons (os1 := [false, false, false, false, false, false, false, false, true, false, false, true])
 (ds_setO (tg := .Constant .none 0 ⟨0, 0, 0, 0⟩) (fun h => ps_set (i := 11) sc_f_law_corners.nd rfl (by first | exact Or.inl rfl | exact Or.inr rfl) h) (by decide) (by decide) (de_call1 (fun h => pe_callTy call_dictD (by rfl) (c.free 47 rfl) (by first | exact boot_dict | exact PySem.boot_dict | exact PyProof.Rows.boot_dict | exact L2.boot_dict) h) dictD_ok dictD_nx (dv_var (pv 9))))
 (dss_cons (os1 := [false, false, false, false, false, false, false, false, true, false, false, true])
 (ds_put rfl (pv 11) (de_var (pv 10) rfl) (dv_var (pv 4)) (hr_cls hr) (fun h g => ps_asg h g))
 (dss_fz 11 (by decide) (dss_cons (os1 := [false, false, false, false, false, false, false, false, true, false, false, false])
 (ds_expr (α := Unit) (fun h => ps_expr h) (de_mth (id := "list.append") rfl (pv 8) (de_var (pv 11) rfl) append_ok (fun h => pe_bm PySem.F.plainAttrs_list PySem.F.slot_list_append PySem.F.type_list_append mt_append (pv 8) h)))
 dss_nil)))))
 dss_nil))
 (dss_fz 8 (by decide) (dss_cons (os1 := [false, false, false, false, false, false, false, false, false, false, false, false])
 (ds_set (tg := .Constant .none 0 ⟨0, 0, 0, 0⟩) (fun h => ps_set (i := 3) sc_f_law_corners.nd rfl (by first | exact Or.inl rfl | exact Or.inr rfl) h) (by decide) (by decide) (de_var (pv 8) rfl))
 dss_nil)))))))
 (dss_cons (os1 := [false, false, false, false, false, false, false, false, false, false, false, false]) (ds_ret rfl (de_var (pv 3) rfl)) dss_nil)))
abbrev N_f_law_best : List Str := ["entries", "baskets", "found", "basket", "number"]
theorem sc_f_law_best : FnScope N_f_law_best ["entries", "baskets"] (defScope (top 50)) := ⟨rfl, rfl, rfl, by decide +kernel, rfl, by decide +kernel, by decide +kernel⟩
def l_f_law_best_1 : SM := (sSeq (sSet 4 (eCall [none, none] m_f_law_price (eCons (eVar 0) (eCons (eVar 3) eNil))))
 (sSeq (sIf (eOr (e2 isC (eVar 2) (eRet .non)) (eOr (e1 gBl (eCall [none, none] m_f_law_less (eCons (eVar 4) (eCons (e2 ixD (eVar 2) (eRet (.int 0))) eNil)))) (eAnd (e2 eqD (eVar 4) (e2 ixD (eVar 2) (eRet (.int 0)))) (e2 (ltP fun p q => PySem.W.dataLt p q) (eCall [none] m_f_law_row (eCons (eVar 3) eNil)) (eCall [none] m_f_law_row (eCons (e2 ixD (eVar 2) (eRet (.int 1))) eNil))))))
 (sSeq (sSet 2 (eL gTup (eCons (eVar 4) (eCons (eVar 3) eNil))))
 sNil)
 sNil)
 sNil))
def b_f_law_best : SM := (sSeq (sSet 2 (eRet .non))
 (sSeq (forA 1 (gSet 3) l_f_law_best_1)
 (sSeq (sRet (eVar 2)) sNil)))
def m_f_law_best : List D → Res (D × List D) := fnM 5 2 false b_f_law_best
theorem ok_f_law_best (c : Base fa fn ex K mg) : Ok P w K mg base "_law_best" 5 ["entries", "baskets"] [false, false] false m_f_law_best := mkOk c 43 43 rfl rfl (fun _ _ _ _ _ _ us hl => match us, hl with | [_, _], _ => rfl) fun F =>
  fn_D F sc_f_law_best rfl (by decide) (by decide) (kt := []) (os' := [false, false, false, false, false]) fun cdv A outer s H E hr => (dss_cons (os1 := [false, false, false, false, false])
 (ds_set (tg := .Constant .none 0 ⟨0, 0, 0, 0⟩) (fun h => ps_set (i := 2) sc_f_law_best.nd rfl (by first | exact Or.inl rfl | exact Or.inr rfl) h) (by decide) (by decide) de_non)
 (dss_cons (os1 := [false, false, false, false, false])
 (ds_forA (os1 := [false, false, false, false, false]) PassesOwn.never rfl (pv 1) rfl (dg_name (pg_name (i := 3) sc_f_law_best.nd rfl (by first | exact Or.inl rfl | exact Or.inr rfl)) (by decide) (by decide))
 (dss_cons (os1 := [false, false, false, false, false])
 (ds_set (tg := .Constant .none 0 ⟨0, 0, 0, 0⟩) (fun h => ps_set (i := 4) sc_f_law_best.nd rfl (by first | exact Or.inl rfl | exact Or.inr rfl) h) (by decide) (by decide) (dcall (ks := [none, none]) (ok_f_law_price c) rfl hr (by decide) (by rfl) (dc_val (de_var (pv 0) rfl) (dc_val (de_var (pv 3) rfl) dc_nil)) rfl (by decide)))
 (dss_cons (os1 := [false, false, false, false, false])
 (ds_if (PW.pt (dw_or (dt_cmp op_isC isC_ok isC_nx (nomark _) (de_var (pv 2) rfl) (dv_of de_non)) (dw_or (dt_val (dcall (ks := [none, none]) (ok_f_law_less c) rfl hr (by decide) (by rfl) (dc_val (de_var (pv 4) rfl) (dc_val (de_ix (hr_cls hr) (by intro _ _; rfl) (de_var (pv 2) rfl) (dv_of de_int)) dc_nil)) rfl (by decide))) (pw_or1 (PW.pt (dw_and (dt_cmp (op_eqD (hr_cls2 hr)) eqD_ok eqD_nx (nomark _) (de_var (pv 4) rfl) (dv_of (de_ix (hr_cls hr) (by intro _ _; rfl) (de_var (pv 2) rfl) (dv_of de_int)))) (pw_and1 (dt_cmp (op_ltP (hr_cls2 hr)) (ltP_ok _) (ltP_nx _) (nomark _) (dcall (ks := [none]) (ok_f_law_row c) rfl hr (by decide) (by rfl) (dc_val (de_var (pv 3) rfl) dc_nil) rfl (by decide)) (dv_of (dcall (ks := [none]) (ok_f_law_row c) rfl hr (by decide) (by rfl) (dc_val (de_ix (hr_cls hr) (by intro _ _; rfl) (de_var (pv 2) rfl) (dv_of de_int)) dc_nil) rfl (by decide)))))))))))
 (dss_cons (os1 := [false, false, false, false, false])
 (ds_set (tg := .Constant .none 0 ⟨0, 0, 0, 0⟩) (fun h => ps_set (i := 2) sc_f_law_best.nd rfl (by first | exact Or.inl rfl | exact Or.inr rfl) h) (by decide) (by decide) (de_tup (da_cons (de_var (pv 4) rfl) (da_cons (de_var (pv 3) rfl) da_nil))))
 dss_nil)
 dss_nil)
 dss_nil)))
 (dss_cons (os1 := [false, false, false, false, false]) (ds_ret rfl (de_var (pv 2) rfl)) dss_nil)))
abbrev N_law : List Str := ["script", "pool", "great", "space", "entries", "name", "box", "base", "rises", "turn", "need", "top", "baskets", "entry", "basket", "told", "own"]
theorem sc_law : FnScope N_law ["script"] (defScope (top 51)) := ⟨rfl, rfl, rfl, by decide +kernel, rfl, by decide +kernel, by decide +kernel⟩
def l_law_1 : SM := (sSeq (sPut 10 setD1 (eCall [some 1, none] m_f_law_draw (eConsO 1 (eCons (e2 addD (eVar 11) (eRet (.int 1))) eNil))) (eVar 5))
 sNil)
def l_law_2 : SM := (sSeq (sSet 12 (e2 addD (eVar 12) (eCall [none, none, none] m_f_law_corners (eCons (eVar 3) (eCons (e2 ixD (eVar 13) (eRet (.int 0))) (eCons (eVar 10) eNil))))))
 sNil)
def l_law_3 : SM := (sSeq (sDrop (eCall [some 1] m_f_law_next (eConsO 1 eNil)))
 (sSeq (sSet 10 (eRet (.dic false [])))
 (sSeq (forA 3 (gTupT 2 (gsCons (gSet 5) (gsCons (gSet 11) gsNil))) l_law_1)
 (sSeq (sSet 12 (eL gLst eNil))
 (sSeq (sIf (e1 truD (eVar 2))
 (sSeq (forA 4 (gSet 13) l_law_2)
 sNil)
 (sSeq (sSet 12 (eComp [14] (e1 gItems (eCall [none] m_f_law_baskets (eCons (eVar 3) eNil))) (gSet 14) (e2 eqD (e1 lenD (eCompA [5] 10 (gSet 5) (e2 (cmpD fun i j => decide (i < j)) (e2 ixD (eVar 14) (eVar 5)) (e2 ixD (eVar 10) (eVar 5))) (eVar 5))) (eRet (.int 0))) (eVar 14)))
 sNil))
 (sSeq (sIf (eNot (e1 gBl (eCall [none, none] (m_f_law_same 8) (eCons (eCall [none, none, none] m_cheapest_cover (eCons (eVar 3) (eCons (eVar 4) (eCons (e1 dictD (eVar 10)) eNil)))) (eCons (eCall [none, none] m_f_law_best (eCons (eVar 4) (eCons (eVar 12) eNil))) eNil)))))
 (sSeq (sRet (eRet (.bl false))) sNil)
 sNil)
 sNil))))))
def l_law_4 : SM := (sSeq (sSet 16 (eBl (eAnd (eAsB (eVar 16)) (e2 eqD (e2 ixD (eCall [none, none, none] m_cheapest_cover (eCons (eVar 3) (eCons (eVar 4) (eCons (eVar 14) eNil)))) (eRet (.int 0))) (eCall [none, none] m_f_law_price (eCons (eVar 4) (eCons (eVar 14) eNil)))))))
 sNil)
def b_law : SM := (sSeq (sSet 1 (eCall [none] m_f_law_pool (eCons (eVar 0) eNil)))
 (sSeq (sSet 2 (eBl (e2 eqD (eCall [some 1, none] m_f_law_draw (eConsO 1 (eCons (eRet (.int 2)) eNil))) (eRet (.int 0)))))
 (sSeq (sSet 3 (eCall [some 1, none, none] m_f_law_space (eConsO 1 (eCons (eRet (.int 3)) (eCons (eIf (e1 truD (eVar 2)) (e2 powD (eRet (.int 10)) (eRet (.int 6))) (eRet (.int 3))) eNil)))))
 (sSeq (sSet 4 (eCall [some 1, none, none] m_f_law_entries (eConsO 1 (eCons (eVar 3) (eCons (eRet (.int 5)) eNil)))))
 (sSeq (sIf (e2 eqD (eCall [some 1, none] m_f_law_draw (eConsO 1 (eCons (eRet (.int 3)) eNil))) (eRet (.int 0)))
 (sSeq (sSet 4 (eCompA [6, 7, 8] 4 (gTupT 3 (gsCons (gSet 6) (gsCons (gSet 7) (gsCons (gSet 8) gsNil)))) eYes (eL gTup (eCons (eVar 6) (eCons (eL gTup (eCons (eRet (.int 2)) (eCons (eRet (.int 1)) eNil))) (eCons (e1 dictX (eCompA [5] 8 (gSet 5) eYes (eL gTup (eCons (eVar 5) (eCons (eL gTup (eCons (e1 absD (e2 ixD (e2 ixD (eVar 8) (eVar 5)) (eRet (.int 0)))) (eCons (e2 ixD (e2 ixD (eVar 8) (eVar 5)) (eRet (.int 1))) eNil))) eNil))))) eNil))))))
 sNil)
 sNil)
 (sSeq (sFor (e1 rng1D (eRet (.int 4))) (gSet 9) l_law_3)
 (sSeq (sIf (e1 truD (eVar 2))
 (sSeq (sSet 15 (eCall [none, none] m_falls (eCons (eVar 3) (eCons (eVar 4) eNil))))
 (sSeq (sRet (eBl (eOr (e2 isC (eVar 15) (eRet .non)) (eAsB (eCall [none, none] m_f_law_less (eCons (e2 ixD (eCall [none, none, none] m_cheapest_cover (eCons (eVar 3) (eCons (eVar 4) (eCons (e2 ixD (eVar 15) (eRet (.int 0))) eNil)))) (eRet (.int 0))) (eCons (eCall [none, none] m_f_law_price (eCons (eVar 4) (eCons (e2 ixD (eVar 15) (eRet (.int 0))) eNil))) eNil))))))) sNil))
 sNil)
 (sSeq (sSet 16 (eRet (.bl true)))
 (sSeq (sFor (e1 gItems (eCall [none] m_f_law_baskets (eCons (eVar 3) eNil))) (gSet 14) l_law_4)
 (sSeq (sRet (eBl (e2 eqD (eBl (e2 isC (eCall [none, none] m_falls (eCons (eVar 3) (eCons (eVar 4) eNil))) (eRet .non))) (eVar 16)))) sNil))))))))))
def m_law : List D → Res (D × List D) := fnM 17 1 false b_law
theorem fn_law (c : Base fa fn ex K mg) {f : Addr} {fd : FuncData} (F : FunD K "law" "law" (defArgs (top 51)) (defBody (top 51)) (defScope (top 51)) [] [] f fd) : FnOk P w K mg base CX0 10 f fd ["script"] (spD K [false] false m_law) :=
  fn_D F sc_law rfl (by decide) (by decide) (kt := []) (os' := [false, false, false, false, false, false, false, false, false, false, false, false, false, false, false, false, false]) fun cdv A outer s H E hr => (dss_cons (os1 := [false, true, false, false, false, false, false, false, false, false, false, false, false, false, false, false, false])
 (ds_setO (tg := .Constant .none 0 ⟨0, 0, 0, 0⟩) (fun h => ps_set (i := 1) sc_law.nd rfl (by first | exact Or.inl rfl | exact Or.inr rfl) h) (by decide) (by decide) (ocall (ks := [none]) (ok_f_law_pool c) rfl hr (by decide) (by rfl) (dc_val (de_var (pv 0) rfl) dc_nil) rfl (by decide)))
 (dss_cons (os1 := [false, true, false, false, false, false, false, false, false, false, false, false, false, false, false, false, false])
 (ds_set (tg := .Constant .none 0 ⟨0, 0, 0, 0⟩) (fun h => ps_set (i := 2) sc_law.nd rfl (by first | exact Or.inl rfl | exact Or.inr rfl) h) (by decide) (by decide) (dv_cmp (op_eqD (hr_cls2 hr)) eqD_ok eqD_nx (nomark _) (dcall (ks := [some 1, none]) (ok_f_law_draw c) rfl hr (by decide) (by rfl) (dc_own (pv 1) (dc_val de_int dc_nil)) rfl (by decide)) (dv_of de_int)))
 (dss_cons (os1 := [false, true, false, false, false, false, false, false, false, false, false, false, false, false, false, false, false])
 (ds_set (tg := .Constant .none 0 ⟨0, 0, 0, 0⟩) (fun h => ps_set (i := 3) sc_law.nd rfl (by first | exact Or.inl rfl | exact Or.inr rfl) h) (by decide) (by decide) (dcall (ks := [some 1, none, none]) (ok_f_law_space c) rfl hr (by decide) (by rfl) (dc_own (pv 1) (dc_val de_int (dc_val (de_if (dt_tru (dv_var (pv 2))) (de_op op_pow powD_ok powD_nx de_int (dv_of de_int)) de_int) dc_nil))) rfl (by decide)))
 (dss_cons (os1 := [false, true, false, false, false, false, false, false, false, false, false, false, false, false, false, false, false])
 (ds_set (tg := .Constant .none 0 ⟨0, 0, 0, 0⟩) (fun h => ps_set (i := 4) sc_law.nd rfl (by first | exact Or.inl rfl | exact Or.inr rfl) h) (by decide) (by decide) (dcall (ks := [some 1, none, none]) (ok_f_law_entries c) rfl hr (by decide) (by rfl) (dc_own (pv 1) (dc_val (de_var (pv 3) rfl) (dc_val de_int dc_nil))) rfl (by decide)))
 (dss_cons (os1 := [false, true, false, false, false, false, false, false, false, false, false, false, false, false, false, false, false])
 (ds_if (dt_cmp (op_eqD (hr_cls2 hr)) eqD_ok eqD_nx (nomark _) (dcall (ks := [some 1, none]) (ok_f_law_draw c) rfl hr (by decide) (by rfl) (dc_own (pv 1) (dc_val de_int dc_nil)) rfl (by decide)) (dv_of de_int))
 (dss_cons (os1 := [false, true, false, false, true, false, false, false, false, false, false, false, false, false, false, false, false])
 (ds_setA (i := 4) (j := 4) rfl (ps_setLc (i := 4) (own := [("box", 6), ("base", 7), ("rises", 8)]) rfl sc_law.nd rfl rfl (sw_true rfl rfl rfl (by decide +kernel)) (di_keysL (E := E) (pv 4) rfl) (blkOk_by (N := N_law) (sc := defScope (top 51)) (own := [("box", 6), ("base", 7), ("rises", 8)]) (by decide +kernel)) (g := (L2.gTup _ 3 (gCons (gName 6) (gCons (gName 7) (gCons (gName 8) gNil))))) (fun _ _ _ _ _ => (pg_tup rfl (pgs_cons (pg_name (i := 6) sc_law.nd rfl (by first | exact Or.inl rfl | exact Or.inr rfl)) (pgs_cons (pg_name (i := 7) sc_law.nd rfl (by first | exact Or.inl rfl | exact Or.inr rfl)) (pgs_cons (pg_name (i := 8) sc_law.nd rfl (by first | exact Or.inl rfl | exact Or.inr rfl)) pgs_nil))))) (fun _ _ _ _ _ => dts_nil) (fun _ _ _ _ _ => (de_tup (da_cons (de_var (pv 6) rfl) (da_cons (de_tup (da_cons de_int (da_cons de_int da_nil))) (da_cons (de_of (de_call1 (fun h => pe_callTy (call_dictX rfl) (by rfl) (c.free 47 rfl) (by first | exact boot_dict | exact PySem.boot_dict | exact PyProof.Rows.boot_dict | exact L2.boot_dict) h) dictX_ok dictX_nx (dv_of (de_of (do_lcA (own := [("name", 5)]) rfl sc_law.nd (pv 8) rfl (blkOk_by (N := N_law) (own := [("name", 5)]) (by kernel_rfl)) (gt := (gName 5)) (fun _ _ _ _ _ => (pg_name (i := 5) sc_law.nd rfl (by first | exact Or.inl rfl | exact Or.inr rfl))) (fun _ _ _ _ _ => dts_nil) (fun _ _ _ _ _ => (de_tup (da_cons (de_var (pv 5) rfl) (da_cons (de_tup (da_cons (de_call1 (fun h => pe_callB call_abs (by rfl) (c.free 45 rfl) (by first | exact boot_abs | exact PySem.boot_abs | exact PyProof.Rows.boot_abs | exact L2.boot_abs) h) absD_ok absD_nx (dv_of (de_ix (hr_cls hr) (by intro _ _; rfl) (de_ix (hr_cls hr) (by intro _ _; rfl) (de_var (pv 8) rfl) (dv_var (pv 5))) (dv_of de_int)))) (da_cons (de_ix (hr_cls hr) (by intro _ _; rfl) (de_ix (hr_cls hr) (by intro _ _; rfl) (de_var (pv 8) rfl) (dv_var (pv 5))) (dv_of de_int)) da_nil))) da_nil)))) (raw_name (by decide) rfl) (by decide)))))) da_nil)))))) (ps_setLc (i := 4) (own := [("box", 6), ("base", 7), ("rises", 8)]) rfl sc_law.nd rfl rfl (sw_true rfl rfl rfl (by decide +kernel)) (di_seq (de_var (pv 4) rfl)) (blkOk_by (N := N_law) (sc := defScope (top 51)) (own := [("box", 6), ("base", 7), ("rises", 8)]) (by decide +kernel)) (g := (L2.gTup _ 3 (gCons (gName 6) (gCons (gName 7) (gCons (gName 8) gNil))))) (fun _ _ _ _ _ => (pg_tup rfl (pgs_cons (pg_name (i := 6) sc_law.nd rfl (by first | exact Or.inl rfl | exact Or.inr rfl)) (pgs_cons (pg_name (i := 7) sc_law.nd rfl (by first | exact Or.inl rfl | exact Or.inr rfl)) (pgs_cons (pg_name (i := 8) sc_law.nd rfl (by first | exact Or.inl rfl | exact Or.inr rfl)) pgs_nil))))) (fun _ _ _ _ _ => dts_nil) (fun _ _ _ _ _ => (de_tup (da_cons (de_var (pv 6) rfl) (da_cons (de_tup (da_cons de_int (da_cons de_int da_nil))) (da_cons (de_of (de_call1 (fun h => pe_callTy (call_dictX rfl) (by rfl) (c.free 47 rfl) (by first | exact boot_dict | exact PySem.boot_dict | exact PyProof.Rows.boot_dict | exact L2.boot_dict) h) dictX_ok dictX_nx (dv_of (de_of (do_lcA (own := [("name", 5)]) rfl sc_law.nd (pv 8) rfl (blkOk_by (N := N_law) (own := [("name", 5)]) (by kernel_rfl)) (gt := (gName 5)) (fun _ _ _ _ _ => (pg_name (i := 5) sc_law.nd rfl (by first | exact Or.inl rfl | exact Or.inr rfl))) (fun _ _ _ _ _ => dts_nil) (fun _ _ _ _ _ => (de_tup (da_cons (de_var (pv 5) rfl) (da_cons (de_tup (da_cons (de_call1 (fun h => pe_callB call_abs (by rfl) (c.free 45 rfl) (by first | exact boot_abs | exact PySem.boot_abs | exact PyProof.Rows.boot_abs | exact L2.boot_abs) h) absD_ok absD_nx (dv_of (de_ix (hr_cls hr) (by intro _ _; rfl) (de_ix (hr_cls hr) (by intro _ _; rfl) (de_var (pv 8) rfl) (dv_var (pv 5))) (dv_of de_int)))) (da_cons (de_ix (hr_cls hr) (by intro _ _; rfl) (de_ix (hr_cls hr) (by intro _ _; rfl) (de_var (pv 8) rfl) (dv_var (pv 5))) (dv_of de_int)) da_nil))) da_nil)))) (raw_name (by decide) rfl) (by decide)))))) da_nil)))))) (raw_tup (raws_cons (raw_name (by decide) rfl) (raws_cons (raw_name (by decide) rfl) (raws_cons (raw_name (by decide) rfl) raws_nil)))) (by decide) (by decide) (by decide))
 (dss_fz 4 (by decide) dss_nil))
 dss_nil)
 (dss_cons (os1 := [false, true, false, false, false, false, false, false, false, false, false, false, false, false, false, false, false])
 (ds_for (os1 := [false, true, false, false, false, false, false, false, false, false, false, false, false, false, false, false, false]) PassesOwn.never rfl (di_range1 (fun h => pi_range1 (by rfl) (c.free 55 rfl) h) (dv_of de_int)) (dg_name (pg_name (i := 9) sc_law.nd rfl (by first | exact Or.inl rfl | exact Or.inr rfl)) (by decide) (by decide))
 (dss_cons (os1 := [false, true, false, false, false, false, false, false, false, false, false, false, false, false, false, false, false])
 (ds_expr (α := Unit) (fun h => ps_expr h) (dcall (ks := [some 1]) (ok_f_law_next c) rfl hr (by decide) (by rfl) (dc_own (pv 1) dc_nil) rfl (by decide)))
 (dss_cons (os1 := [false, true, false, false, false, false, false, false, false, false, true, false, false, false, false, false, false])
 (ds_setO (tg := .Constant .none 0 ⟨0, 0, 0, 0⟩) (fun h => ps_set (i := 10) sc_law.nd rfl (by first | exact Or.inl rfl | exact Or.inr rfl) h) (by decide) (by decide) do_newK)
 (dss_cons (os1 := [false, true, false, false, false, false, false, false, false, false, true, false, false, false, false, false, false])
 (ds_forA (os1 := [false, true, false, false, false, false, false, false, false, false, true, false, false, false, false, false, false]) PassesOwn.never rfl (pv 3) rfl (dg_tup rfl (dgs_cons (os1 := [false, true, false, false, false, false, false, false, false, false, true, false, false, false, false, false, false]) (dg_name (pg_name (i := 5) sc_law.nd rfl (by first | exact Or.inl rfl | exact Or.inr rfl)) (by decide) (by decide)) (dgs_cons (os1 := [false, true, false, false, false, false, false, false, false, false, true, false, false, false, false, false, false]) (dg_name (pg_name (i := 11) sc_law.nd rfl (by first | exact Or.inl rfl | exact Or.inr rfl)) (by decide) (by decide)) dgs_nil)))
 (dss_cons (os1 := [false, true, false, false, false, false, false, false, false, false, true, false, false, false, false, false, false])
 (ds_put rfl (pv 10) (dcall (ks := [some 1, none]) (ok_f_law_draw c) rfl hr (by decide) (by rfl) (dc_own (pv 1) (dc_val (de_op op_add4 addD_ok addD_nx (de_var (pv 11) rfl) (dv_of de_int)) dc_nil)) rfl (by decide)) (dv_var (pv 5)) (hr_cls hr) (fun h g => ps_asg h g))
 dss_nil))
 (dss_cons (os1 := [false, true, false, false, false, false, false, false, false, false, true, false, false, false, false, false, false])
 (ds_set (tg := .Constant .none 0 ⟨0, 0, 0, 0⟩) (fun h => ps_set (i := 12) sc_law.nd rfl (by first | exact Or.inl rfl | exact Or.inr rfl) h) (by decide) (by decide) (de_of (do_lst (k := 0) da_nil)))
 (dss_cons (os1 := [false, true, false, false, false, false, false, false, false, false, false, false, false, false, false, false, false])
 (ds_if (dt_tru (dv_var (pv 2)))
 (dss_fz 10 (by decide) (dss_cons (os1 := [false, true, false, false, false, false, false, false, false, false, false, false, false, false, false, false, false])
 (ds_forA (os1 := [false, true, false, false, false, false, false, false, false, false, false, false, false, false, false, false, false]) PassesOwn.never rfl (pv 4) rfl (dg_name (pg_name (i := 13) sc_law.nd rfl (by first | exact Or.inl rfl | exact Or.inr rfl)) (by decide) (by decide))
 (dss_cons (os1 := [false, true, false, false, false, false, false, false, false, false, false, false, false, false, false, false, false])
 (ds_set (tg := .Constant .none 0 ⟨0, 0, 0, 0⟩) (fun h => ps_set (i := 12) sc_law.nd rfl (by first | exact Or.inl rfl | exact Or.inr rfl) h) (by decide) (by decide) (de_op op_add4 addD_ok addD_nx (de_var (pv 12) rfl) (dv_of (dcall (ks := [none, none, none]) (ok_f_law_corners c) rfl hr (by decide) (by rfl) (dc_val (de_var (pv 3) rfl) (dc_val (de_ix (hr_cls hr) (by intro _ _; rfl) (de_var (pv 13) rfl) (dv_of de_int)) (dc_val (de_var (pv 10) rfl) dc_nil))) rfl (by decide)))))
 dss_nil))
 dss_nil))
 (dss_fz 10 (by decide) (dss_cons (os1 := [false, true, false, false, false, false, false, false, false, false, false, false, false, false, false, false, false])
 (ds_setW0 (ps_setLc (i := 12) (own := [("basket", 14)]) rfl sc_law.nd rfl rfl (sw_true rfl rfl rfl (by decide +kernel)) (di_seq (dcall (ks := [none]) (ok_f_law_baskets c) rfl hr (by decide) (by rfl) (dc_val (de_var (pv 3) rfl) dc_nil) rfl (by decide))) (blkOk_by (N := N_law) (sc := defScope (top 51)) (own := [("basket", 14)]) (by decide +kernel)) (g := (gName 14)) (fun _ _ _ _ _ => (pg_name (i := 14) sc_law.nd rfl (by first | exact Or.inl rfl | exact Or.inr rfl))) (fun _ _ _ _ _ => (dts_one (dt_cmp (op_eqD (hr_cls2 hr)) eqD_ok eqD_nx (nomark _) (de_call1 (fun h => pe_callB call_len2 (by rfl) (c.free 51 rfl) (by first | exact boot_len | exact PySem.boot_len | exact PyProof.Rows.boot_len | exact L2.boot_len) h) lenD_ok lenD_nx (dv_of (de_of (do_lcA (own := [("name", 5)]) rfl sc_law.nd (pv 10) rfl (blkOk_by (N := N_law) (own := [("name", 5)]) (by kernel_rfl)) (gt := (gName 5)) (fun _ _ _ _ _ => (pg_name (i := 5) sc_law.nd rfl (by first | exact Or.inl rfl | exact Or.inr rfl))) (fun _ _ _ _ _ => (dts_one (dt_cmp op_lt (cmpD_ok fun i j => decide (i < j)) (cmpD_nx _) (nomark _) (de_ix (hr_cls hr) (by intro _ _; rfl) (de_var (pv 14) rfl) (dv_var (pv 5))) (dv_of (de_ix (hr_cls hr) (by intro _ _; rfl) (de_var (pv 10) rfl) (dv_var (pv 5))))))) (fun _ _ _ _ _ => (de_var (pv 5) rfl)) (raw_name (by decide) rfl) (by decide))))) (dv_of de_int)))) (fun _ _ _ _ _ => (de_var (pv 14) rfl))) (fun _ _ _ h => comp_read (by decide) (raw_name (by decide) rfl) h) (by decide) (by decide))
 dss_nil)))
 (dss_cons (os1 := [false, true, false, false, false, false, false, false, false, false, false, false, false, false, false, false, false])
 (ds_if (dt_not (dt_val (dcall (ks := [none, none]) (ok_f_law_same c 8) rfl hr (by decide) (by rfl) (dc_val (dcall (ks := [none, none, none]) (ok_cheapest_cover c) rfl hr (by decide) (by rfl) (dc_val (de_var (pv 3) rfl) (dc_val (de_var (pv 4) rfl) (dc_val (de_of (de_call1 (fun h => pe_callTy call_dictD (by rfl) (c.free 47 rfl) (by first | exact boot_dict | exact PySem.boot_dict | exact PyProof.Rows.boot_dict | exact L2.boot_dict) h) dictD_ok dictD_nx (dv_var (pv 10)))) dc_nil))) rfl (by decide)) (dc_val (dcall (ks := [none, none]) (ok_f_law_best c) rfl hr (by decide) (by rfl) (dc_val (de_var (pv 4) rfl) (dc_val (de_var (pv 12) rfl) dc_nil)) rfl (by decide)) dc_nil)) rfl (by decide))))
 (dss_cons (os1 := [false, true, false, false, false, false, false, false, false, false, false, false, false, false, false, false, false]) (ds_ret rfl de_bl) dss_nil)
 dss_nil)
 dss_nil)))))))
 (dss_cons (os1 := [false, true, false, false, false, false, false, false, false, false, false, false, false, false, false, false, false])
 (ds_if (dt_tru (dv_var (pv 2)))
 (dss_cons (os1 := [false, true, false, false, false, false, false, false, false, false, false, false, false, false, false, false, false])
 (ds_set (tg := .Constant .none 0 ⟨0, 0, 0, 0⟩) (fun h => ps_set (i := 15) sc_law.nd rfl (by first | exact Or.inl rfl | exact Or.inr rfl) h) (by decide) (by decide) (dcall (ks := [none, none]) (ok_falls c) rfl hr (by decide) (by rfl) (dc_val (de_var (pv 3) rfl) (dc_val (de_var (pv 4) rfl) dc_nil)) rfl (by decide)))
 (dss_cons (os1 := [false, true, false, false, false, false, false, false, false, false, false, false, false, false, false, false, false]) (ds_ret rfl (de_or (dv_cmp op_isC isC_ok isC_nx (nomark _) (de_var (pv 15) rfl) (dv_of de_non)) (pe_one (dv_asb (dcall (ks := [none, none]) (ok_f_law_less c) rfl hr (by decide) (by rfl) (dc_val (de_ix (hr_cls hr) (by intro _ _; rfl) (dcall (ks := [none, none, none]) (ok_cheapest_cover c) rfl hr (by decide) (by rfl) (dc_val (de_var (pv 3) rfl) (dc_val (de_var (pv 4) rfl) (dc_val (de_ix (hr_cls hr) (by intro _ _; rfl) (de_var (pv 15) rfl) (dv_of de_int)) dc_nil))) rfl (by decide)) (dv_of de_int)) (dc_val (dcall (ks := [none, none]) (ok_f_law_price c) rfl hr (by decide) (by rfl) (dc_val (de_var (pv 4) rfl) (dc_val (de_ix (hr_cls hr) (by intro _ _; rfl) (de_var (pv 15) rfl) (dv_of de_int)) dc_nil)) rfl (by decide)) dc_nil)) rfl (by decide)))))) dss_nil))
 dss_nil)
 (dss_cons (os1 := [false, true, false, false, false, false, false, false, false, false, false, false, false, false, false, false, false])
 (ds_set (tg := .Constant .none 0 ⟨0, 0, 0, 0⟩) (fun h => ps_set (i := 16) sc_law.nd rfl (by first | exact Or.inl rfl | exact Or.inr rfl) h) (by decide) (by decide) de_bl)
 (dss_cons (os1 := [false, true, false, false, false, false, false, false, false, false, false, false, false, false, false, false, false])
 (ds_for (os1 := [false, true, false, false, false, false, false, false, false, false, false, false, false, false, false, false, false]) PassesOwn.never rfl (di_seq (dcall (ks := [none]) (ok_f_law_baskets c) rfl hr (by decide) (by rfl) (dc_val (de_var (pv 3) rfl) dc_nil) rfl (by decide))) (dg_name (pg_name (i := 14) sc_law.nd rfl (by first | exact Or.inl rfl | exact Or.inr rfl)) (by decide) (by decide))
 (dss_cons (os1 := [false, true, false, false, false, false, false, false, false, false, false, false, false, false, false, false, false])
 (ds_set (tg := .Constant .none 0 ⟨0, 0, 0, 0⟩) (fun h => ps_set (i := 16) sc_law.nd rfl (by first | exact Or.inl rfl | exact Or.inr rfl) h) (by decide) (by decide) (de_and (dv_asb (de_var (pv 16) rfl)) (pe_one (dv_cmp (op_eqD (hr_cls2 hr)) eqD_ok eqD_nx (nomark _) (de_ix (hr_cls hr) (by intro _ _; rfl) (dcall (ks := [none, none, none]) (ok_cheapest_cover c) rfl hr (by decide) (by rfl) (dc_val (de_var (pv 3) rfl) (dc_val (de_var (pv 4) rfl) (dc_val (de_var (pv 14) rfl) dc_nil))) rfl (by decide)) (dv_of de_int)) (dv_of (dcall (ks := [none, none]) (ok_f_law_price c) rfl hr (by decide) (by rfl) (dc_val (de_var (pv 4) rfl) (dc_val (de_var (pv 14) rfl) dc_nil)) rfl (by decide)))))))
 dss_nil))
 (dss_cons (os1 := [false, false, false, false, false, false, false, false, false, false, false, false, false, false, false, false, false]) (ds_ret rfl (dv_cmp (op_eqD (hr_cls2 hr)) eqD_ok eqD_nx (nomark _) (dv_cmp op_isC isC_ok isC_nx (nomark _) (dcall (ks := [none, none]) (ok_falls c) rfl hr (by decide) (by rfl) (dc_val (de_var (pv 3) rfl) (dc_val (de_var (pv 4) rfl) dc_nil)) rfl (by decide)) (dv_of de_non)) (dv_var (pv 16)))) dss_nil))))))))))
end
end DL.G
namespace DL.G
open PySem PySem.Spec L2
set_option autoImplicit false
/-! ### the drawing of the law -/
theorem mixed_ok (n p : Int) : ∃ v, rv (m_f_law_mixed [.int n, .int p]) = .ok (.int v) := by
  have m1 : mulD (.int n) (.int 48271) = .ok (.int (n * 48271)) := mulD_int (mul_small' (by decide))
  have m2 : mulD (.int p) (.int 69621) = .ok (.int (p * 69621)) := mulD_int (mul_small' (by decide))
  have q1 : ∀ x : Int, modD (.int x) (.int 618970019642690137449562111) = .ok (.int (x.fmod 618970019642690137449562111)) := fun x => modD_int (by decide)
  have q2 : ∀ x : Int, modD (.int x) (.int 162259276829213363391578010288127) = .ok (.int (x.fmod 162259276829213363391578010288127)) := fun x => modD_int (by decide)
  have sm1 : ∀ x : Int, (x.fmod 618970019642690137449562111).natAbs < 2 ^ 250 := fun x => by
    have := fmod_range (a := x) (m := 618970019642690137449562111) (by decide)
    omega
  have sm2 : ∀ x : Int, (x.fmod 162259276829213363391578010288127).natAbs < 2 ^ 250 := fun x => by
    have := fmod_range (a := x) (m := 162259276829213363391578010288127) (by decide)
    omega
  have m3 : ∀ x y : Int, mulD (.int (x.fmod 618970019642690137449562111)) (.int (y.fmod 618970019642690137449562111)) = .ok (.int (x.fmod 618970019642690137449562111 * y.fmod 618970019642690137449562111)) := fun x y => mulD_int (mul_mid (sm1 x) (sm1 y))
  have m4 : ∀ x : Int, mulD (.int 7) (.int x) = .ok (.int (7 * x)) := fun x => mulD_int (mul_small (by decide))
  have m5 : ∀ x y : Int, mulD (.int (x.fmod 162259276829213363391578010288127)) (.int (y.fmod 162259276829213363391578010288127)) = .ok (.int (x.fmod 162259276829213363391578010288127 * y.fmod 162259276829213363391578010288127)) := fun x y => mulD_int (mul_mid (sm2 x) (sm2 y))
  have m6 : ∀ x : Int, mulD (.int (x.fmod 162259276829213363391578010288127)) (.int 618970019642690137449562111) = .ok (.int (x.fmod 162259276829213363391578010288127 * 618970019642690137449562111)) := fun x => mulD_int (mul_mid (sm2 x) (by decide))
  unfold m_f_law_mixed
  rw [rv_fn]
  unfold b_f_law_mixed
  simp [m1, m2, q1, q2, m3, m4, m5, m6]
theorem rest_ok (ns : List Int) (p f : Int) : ∃ v, rv (m_f_law_rest [.lst (ns.map .int), .int p, .int f]) = .ok (.int v) := by
  have m1 : ∀ x : Int, mulD (.int 2) (.int x) = .ok (.int (2 * x)) := fun x => mulD_int (mul_small (by decide))
  have m2 : ∀ f : Int, mulD (.int f) (.int 1000003) = .ok (.int (f * 1000003)) := fun f => mulD_int (mul_small' (by decide))
  by_cases h0 : 0 < ns.length
  · have h1 : modD (.int p) (.int (ns.length : Int)) = .ok (.int (p.fmod ns.length)) := modD_int (by omega)
    obtain ⟨r1, r2⟩ := fmod_range (a := p) (m := (ns.length : Int)) (by omega)
    obtain ⟨k, hk⟩ : ∃ k : Nat, p.fmod ns.length = k := ⟨(p.fmod ns.length).toNat, by omega⟩
    have hkl : k < ns.length := by omega
    have h2 : ixD (.lst (ns.map .int)) (.int (k : Int)) = .ok (.int ns[k]) := ixL_k (by rw [List.getElem?_map, List.getElem?_eq_getElem hkl]; rfl)
    generalize ns[k] = z at h2
    unfold m_f_law_rest
    rw [rv_fn]
    unfold b_f_law_rest
    by_cases h3 : z < 0
    · by_cases c1 : f = 0
      · subst c1
        obtain ⟨v, hv⟩ := mixed_ok (1 - 2 * z) p
        by_cases c2 : p < ns.length
        · by_cases c3 : (1000000000000000000 : Int) ≤ 1 - 2 * z
          · exact ⟨1 - 2 * z - 1000000000000000000, by simp [h0, h1, hk, h2, h3, m1, m2, c2, c3]⟩
          · exact ⟨v, by simp [h0, h1, hk, h2, h3, m1, m2, c2, c3, hv]⟩
        · exact ⟨v, by simp [h0, h1, hk, h2, h3, m1, m2, c2, hv]⟩
      · obtain ⟨v, hv⟩ := mixed_ok (1 - 2 * z + f * 1000003) p
        exact ⟨v, by simp [h0, h1, hk, h2, h3, m1, m2, c1, hv]⟩
    · by_cases c1 : f = 0
      · subst c1
        obtain ⟨v, hv⟩ := mixed_ok z p
        by_cases c2 : p < ns.length
        · by_cases c3 : (1000000000000000000 : Int) ≤ z
          · exact ⟨z - 1000000000000000000, by simp [h0, h1, hk, h2, h3, m1, m2, c2, c3]⟩
          · exact ⟨v, by simp [h0, h1, hk, h2, h3, m1, m2, c2, c3, hv]⟩
        · exact ⟨v, by simp [h0, h1, hk, h2, h3, m1, m2, c2, hv]⟩
      · obtain ⟨v, hv⟩ := mixed_ok (z + f * 1000003) p
        exact ⟨v, by simp [h0, h1, hk, h2, h3, m1, m2, c1, hv]⟩
  · have e : ns = [] := List.eq_nil_of_length_eq_zero (by omega)
    subst e
    unfold m_f_law_rest
    rw [rv_fn]
    unfold b_f_law_rest
    by_cases c1 : f = 0
    · subst c1
      obtain ⟨v, hv⟩ := mixed_ok 0 p
      by_cases c2 : p < 0
      · exact ⟨v, by simp [m1, m2, c2, hv]⟩
      · exact ⟨v, by simp [m1, m2, c2, hv]⟩
    · obtain ⟨v, hv⟩ := mixed_ok (f * 1000003) p
      exact ⟨v, by simp [m1, m2, c1, hv]⟩
/-- the pool -/
def PoolOk (ns : List Int) (d : D) : Prop := ∃ p n c : Int, d = .lst [.lst (ns.map .int), .int p, .int n, .int c]
theorem rest_ev {ns : List Int} {p f : Int} {v : Int} (h : rv (m_f_law_rest [.lst (ns.map .int), .int p, .int f]) = .ok (.int v)) : True := trivial
theorem setL (ns : List Int) (p n c x : Int) :
    setD1 (.lst [.lst (ns.map .int), .int p, .int n, .int c]) (.int 1) (.int x) = .ok (.lst [.lst (ns.map .int), .int x, .int n, .int c]) ∧
    setD1 (.lst [.lst (ns.map .int), .int p, .int n, .int c]) (.int 2) (.int x) = .ok (.lst [.lst (ns.map .int), .int p, .int x, .int c]) ∧
    setD1 (.lst [.lst (ns.map .int), .int p, .int n, .int c]) (.int 3) (.int x) = .ok (.lst [.lst (ns.map .int), .int p, .int n, .int x]) := ⟨rfl, rfl, rfl⟩
theorem draw_ok {ns : List Int} {d : D} {L : Int} (h : PoolOk ns d) (hL : 0 < L) (hb : L.natAbs < 2 ^ 250) : ∃ v d', m_f_law_draw [d, .int L] = .ok (.int v, [d', .int L]) ∧ PoolOk ns d' ∧ 0 ≤ v ∧ v < L := by
  obtain ⟨p, n, c, rfl⟩ := h
  have q1 : ∀ x : Int, modD (.int x) (.int L) = .ok (.int (x.fmod L)) := fun x => modD_int (by omega)
  have q2 : ∀ x : Int, fdivD (.int x) (.int L) = .ok (.int (x.fdiv L)) := fun x => fdivD_int (div_mid (by omega) hb)
  have s1 := fun p n c x => (setL ns p n c x).1
  have s2 := fun p n c x => (setL ns p n c x).2.1
  have s3 := fun p n c x => (setL ns p n c x).2.2
  obtain ⟨v, hv⟩ := rest_ok ns p (c + 1)
  unfold m_f_law_draw fnM b_f_law_draw
  by_cases hn : n ≤ 1
  · refine ⟨v.fmod L, .lst [.lst (ns.map .int), .int p, .int (v.fdiv L), .int (c + 1)], ?_, ⟨_, _, _, rfl⟩, fmod_range hL⟩
    simp [hn, q1, q2, s1, s2, s3, hv, fin]
  · refine ⟨n.fmod L, .lst [.lst (ns.map .int), .int p, .int (n.fdiv L), .int c], ?_, ⟨_, _, _, rfl⟩, fmod_range hL⟩
    simp [hn, q1, q2, s1, s2, s3, hv, fin]
theorem next_ok {ns : List Int} {d : D} (h : PoolOk ns d) : ∃ d', m_f_law_next [d] = .ok (.non, [d']) ∧ PoolOk ns d' := by
  obtain ⟨p, n, c, rfl⟩ := h
  have s1 := fun p n c x => (setL ns p n c x).1
  have s2 := fun p n c x => (setL ns p n c x).2.1
  have s3 := fun p n c x => (setL ns p n c x).2.2
  obtain ⟨v, hv⟩ := rest_ok ns (p + 1) 0
  unfold m_f_law_next fnM b_f_law_next
  refine ⟨.lst [.lst (ns.map .int), .int (p + 1), .int v, .int 0], ?_, ⟨_, _, _, rfl⟩⟩
  simp [s1, s2, s3, hv, fin]
theorem pool_ok (ns : List Int) : ∃ d, rv (m_f_law_pool [.lst (ns.map .int)]) = .ok d ∧ PoolOk ns d := by
  obtain ⟨v, hv⟩ := rest_ok ns 0 0
  refine ⟨.lst [.lst (ns.map .int), .int 0, .int v, .int 0], ?_, ⟨_, _, _, rfl⟩⟩
  unfold m_f_law_pool
  rw [rv_fn]
  unfold b_f_law_pool
  simp [hv]
theorem pick_ok {ns : List Int} {d : D} {xs : List D} (h : PoolOk ns d) (h0 : 0 < xs.length) (hl : xs.length < 2 ^ 60) : ∃ x d', m_f_law_pick [d, .lst xs] = .ok (x, [d', .lst xs]) ∧ PoolOk ns d' ∧ x ∈ xs := by
  obtain ⟨v, d', e1, e2, e3, e4⟩ := draw_ok (L := (xs.length : Int)) h (by omega) (by omega)
  obtain ⟨k, rfl⟩ : ∃ k : Nat, v = k := ⟨v.toNat, by omega⟩
  have hk : k < xs.length := by omega
  refine ⟨xs[k], d', ?_, e2, List.getElem_mem hk⟩
  unfold m_f_law_pick fnM b_f_law_pick
  simp [e1, ixL_k (List.getElem?_eq_getElem hk), fin]
end DL.G
namespace DL.G
open PySem PySem.Spec L2
theorem turned_ok {ns : List Int} {d : D} {xs : List D} (h : PoolOk ns d) (hl : xs.length < 1000) : ∃ k d', m_f_law_turned [d, .lst xs] = .ok (.lst (xs.drop k ++ xs.take k), [d', .lst xs]) ∧ PoolOk ns d' := by
  by_cases h0 : 0 < xs.length
  · obtain ⟨v, d', e1, e2, e3, e4⟩ := draw_ok (L := (xs.length : Int)) h (by omega) (by omega)
    obtain ⟨k, rfl⟩ : ∃ k : Nat, v = k := ⟨v.toNat, by omega⟩
    have hk : k ≤ xs.length := by omega
    refine ⟨k, d', ?_, e2⟩
    have a1 : addD (.lst (xs.drop k)) (.lst (xs.take k)) = .ok (.lst (xs.drop k ++ xs.take k)) := addL_ok (by rw [List.length_drop, List.length_take]; omega)
    unfold m_f_law_turned fnM b_f_law_turned
    simp [h0, e1, sl_from hk, sl_to hk, a1, fin]
  · have e : xs = [] := List.eq_nil_of_length_eq_zero (by omega)
    subst e
    refine ⟨0, d, ?_, h⟩
    have s1 : slLD (.lst []) (some 0) none = .ok (.lst []) := sl_from (xs := []) (k := 0) (Nat.le_refl _)
    have s2 : slLD (.lst []) none (some 0) = .ok (.lst []) := sl_to (xs := []) (k := 0) (Nat.le_refl _)
    have a1 : addD (.lst []) (.lst []) = .ok (.lst []) := addL_ok (xs := []) (ys := []) (by decide)
    unfold m_f_law_turned fnM b_f_law_turned
    simp [s1, s2, a1, fin]
end DL.G
namespace DL.G
open PySem PySem.Spec L2
set_option autoImplicit false
/-! ### fractions -/
def frD (q : Rat) : D := .tup [.int q.num, .int (q.den : Int)]
def Bd (b : Nat) (q : Rat) : Prop := q.num.natAbs < 2 ^ b ∧ q.den < 2 ^ b
theorem Bd.mono {b c : Nat} {q : Rat} (h : b ≤ c) (k : Bd b q) : Bd c q := by
  have := Nat.pow_le_pow_right (n := 2) (by decide) h
  exact ⟨by have := k.1; omega, by have := k.2; omega⟩
theorem dvd_fdiv {p g : Int} (h : g ∣ p) (hg : 0 < g) : p.fdiv g = p / g := by
  exact Int.fdiv_eq_ediv_of_nonneg p (by omega)
theorem frac_num {p q : Int} (hq : 0 < q) : (Rat.divInt p q).num = p / (Int.gcd p q : Int) := by
  rw [Rat.num_divInt, Int.sign_eq_one_of_pos hq, Int.one_mul, Int.gcd_comm]
theorem frac_den {p q : Int} (hq : 0 < q) : ((Rat.divInt p q).den : Int) = q / (Int.gcd p q : Int) := by
  rw [Rat.den_divInt, if_neg (by omega), Int.gcd_comm]
  rw [Int.natCast_ediv]
  congr 1
  omega
theorem gcd_pos' {p q : Int} (hq : 0 < q) : 0 < (Int.gcd p q : Int) := by
  have : 0 < Int.gcd p q := Int.gcd_pos_of_ne_zero_right p (by omega)
  omega
theorem gcd_le' {p q : Int} (hq : 0 < q) : (Int.gcd p q : Int) ≤ q := by
  have := Int.gcd_le_natAbs_right p (b := q) (by omega)
  omega
theorem frac_bd {p q : Int} {b : Nat} (hq : 0 < q) (h1 : p.natAbs < 2 ^ b) (h2 : q.natAbs < 2 ^ b) : Bd b (Rat.divInt p q) := by
  have g0 := gcd_pos' (p := p) hq
  constructor
  · rw [frac_num hq]
    have : (p / (Int.gcd p q : Int)).natAbs ≤ p.natAbs := by
      rw [Int.natAbs_ediv_of_dvd (Int.gcd_dvd_left p q)]
      exact Nat.div_le_self _ _
    omega
  · have e := frac_den (p := p) hq
    have : q / (Int.gcd p q : Int) ≤ q := Int.ediv_le_self _ (by omega)
    have h3 : ((2 ^ b : Nat) : Int) > q := by omega
    have : ((Rat.divInt p q).den : Int) < ((2 ^ b : Nat) : Int) := by omega
    exact Int.ofNat_lt.mp this
theorem frac_ok {p q : Int} (hq : 0 < q) (h2 : q.natAbs < 2 ^ 250) : rv (m_frac [.int p, .int q]) = .ok (frD (Rat.divInt p q)) := by
  have g0 := gcd_pos' (p := p) hq
  have g1 := gcd_le' (p := p) hq
  have h : okDiv (Int.gcd p q) = true := div_mid (by omega) (by omega)
  unfold m_frac
  rw [rv_fn]
  unfold b_frac
  have hn : ¬ q < 0 := by omega
  have e1 : p.fdiv (Int.gcd p q : Int) = (Rat.divInt p q).num := by rw [frac_num hq, Int.fdiv_eq_ediv_of_nonneg _ (by omega)]
  have e2 : q.fdiv (Int.gcd p q : Int) = ((Rat.divInt p q).den : Int) := by rw [frac_den hq, Int.fdiv_eq_ediv_of_nonneg _ (by omega)]
  simp [fdivD_int h, hn, e1, e2, frD]
/-! Euclid's way -/
theorem gcd_steps : ∀ (b : Nat) (x y : Int) (z : Option D) (ds : List D), 0 ≤ x → 0 ≤ y → y < 2 ^ b → 2 * b + 1 ≤ ds.length → ∃ z', forM (gSet 2) l_f_law_gcd_1 ds [some (.int x), some (.int y), z] = .ok (.nx, [some (.int (Int.gcd x y)), some (.int 0), z']) := by
  have stop : ∀ (x : Int) (z : Option D) (ds : List D), 0 ≤ x → 0 < ds.length → ∃ z', forM (gSet 2) l_f_law_gcd_1 ds [some (.int x), some (.int 0), z] = .ok (.nx, [some (.int (Int.gcd x 0)), some (.int 0), z']) := fun x z ds hx hd => by
    cases ds with
    | nil => simp at hd
    | cons d ds =>
      refine ⟨some d, ?_⟩
      unfold forM l_f_law_gcd_1
      have e : ((x.natAbs : Nat) : Int) = x := by omega
      simp [e]
  have step : ∀ (x y : Int) (z : Option D) (d : D) (ds : List D), 0 < y → forM (gSet 2) l_f_law_gcd_1 (d :: ds) [some (.int x), some (.int y), z] = forM (gSet 2) l_f_law_gcd_1 ds [some (.int y), some (.int (x.fmod y)), some d] := fun x y z d ds hy => by
    have q1 : modD (.int x) (.int y) = .ok (.int (x.fmod y)) := modD_int (by omega)
    have hn : ¬ y = 0 := by omega
    rw [forM]
    unfold l_f_law_gcd_1
    simp [q1, hn]
  have gs : ∀ x y : Int, 0 ≤ x → 0 < y → Int.gcd y (x.fmod y) = Int.gcd x y := fun x y hx hy => by
    rw [Int.fmod_eq_emod_of_nonneg x (by omega)]
    obtain ⟨a, rfl⟩ : ∃ a : Nat, x = a := ⟨x.toNat, by omega⟩
    obtain ⟨c, rfl⟩ : ∃ c : Nat, y = c := ⟨y.toNat, by omega⟩
    show Nat.gcd c (((a : Int) % (c : Int)).natAbs) = Nat.gcd a c
    have e : ((a : Int) % (c : Int)).natAbs = a % c := by omega
    rw [e, Nat.gcd_comm a c, Nat.gcd_rec c a, Nat.gcd_comm]
  intro b
  induction b with
  | zero =>
    intro x y z ds hx hy hb hl
    have : y = 0 := by omega
    subst this
    exact stop x z ds hx (by omega)
  | succ b ih =>
    intro x y z ds hx hy hb hl
    by_cases h0 : y = 0
    · subst h0
      exact stop x z ds hx (by omega)
    · cases ds with
      | nil => simp at hl
      | cons d ds =>
        rw [step x y z d ds (by omega)]
        obtain ⟨r0, r1⟩ := fmod_range (a := x) (m := y) (by omega)
        by_cases h1 : x.fmod y = 0
        · obtain ⟨z', hz⟩ := stop y (some d) ds hy (by simp at hl; omega)
          refine ⟨z', ?_⟩
          rw [h1, hz]
          rw [← gs x y hx (by omega), h1]
        · cases ds with
          | nil => simp at hl
          | cons d2 ds =>
            rw [step y (x.fmod y) (some d) d2 ds (by omega)]
            obtain ⟨s0, s1⟩ := fmod_range (a := y) (m := x.fmod y) (by omega)
            have hh : 2 * y.fmod (x.fmod y) < y := by
              have e := Int.fmod_add_mul_fdiv y (x.fmod y)
              have hd : 1 ≤ y.fdiv (x.fmod y) := by
                rw [Int.fdiv_eq_ediv_of_nonneg _ (by omega)]
                exact (Int.le_ediv_iff_mul_le (by omega)).mpr (by omega)
              have : x.fmod y * 1 ≤ x.fmod y * y.fdiv (x.fmod y) := Int.mul_le_mul_of_nonneg_left hd (by omega)
              omega
            obtain ⟨z', hz⟩ := ih (x.fmod y) (y.fmod (x.fmod y)) (some d2) ds (by omega) s0 (by rw [Int.pow_succ] at hb; omega) (by simp at hl; omega)
            refine ⟨z', ?_⟩
            rw [hz]
            rw [gs y (x.fmod y) hy (by omega), gs x y hx (by omega)]
theorem lgcd_ok {x y : Int} (hx : 0 ≤ x) (hy : 0 ≤ y) (hb : y < 2 ^ 250) : rv (m_f_law_gcd [.int x, .int y]) = .ok (.int (Int.gcd x y)) := by
  obtain ⟨z', hz⟩ := gcd_steps 250 x y none (rngL 0 20000) hx hy hb (by unfold rngL; simp)
  unfold m_f_law_gcd
  rw [rv_fn]
  unfold b_f_law_gcd
  have e : rng1D (.int 20000) = .ok (rngL 0 20000) := by simp [rng1D]
  simp [e, hz]
theorem lratio_ok {p q : Int} (hq : 0 < q) (h2 : q.natAbs < 2 ^ 250) : rv (m_f_law_ratio [.int p, .int q]) = .ok (frD (Rat.divInt p q)) := by
  have g0 := gcd_pos' (p := p) hq
  have g1 := gcd_le' (p := p) hq
  have h : okDiv (Int.gcd p q) = true := div_mid (by omega) (by omega)
  have hg : rv (m_f_law_gcd [.int (if p < 0 then -p else p), .int q]) = .ok (.int (Int.gcd p q)) := by
    rw [lgcd_ok (by split <;> omega) (by omega) (by omega)]
    congr 2
    split
    · rw [Int.neg_gcd]
    · rfl
  unfold m_f_law_ratio
  rw [rv_fn]
  unfold b_f_law_ratio
  have hn : ¬ q < 0 := by omega
  have e1 : p.fdiv (Int.gcd p q : Int) = (Rat.divInt p q).num := by rw [frac_num hq, Int.fdiv_eq_ediv_of_nonneg _ (by omega)]
  have e2 : q.fdiv (Int.gcd p q : Int) = ((Rat.divInt p q).den : Int) := by rw [frac_den hq, Int.fdiv_eq_ediv_of_nonneg _ (by omega)]
  simp [fdivD_int h, hn, e1, e2, frD, hg]
/-! sums, products, quotients, order -/
theorem bmul {i j : Int} {a b : Nat} (hi : i.natAbs < 2 ^ a) (hj : j.natAbs < 2 ^ b) : (i * j).natAbs < 2 ^ (a + b) := by
  rw [Int.natAbs_mul, Nat.pow_add]
  exact Nat.mul_lt_mul_of_lt_of_lt hi hj
theorem p64 {i : Int} {b : Nat} (h : i.natAbs < 2 ^ b) (hb : b ≤ 60) : i.natAbs < 2 ^ 64 := by
  have := Nat.pow_le_pow_right (n := 2) (by decide) (show b ≤ 64 by omega)
  omega
theorem p250 {i : Int} {b : Nat} (h : i.natAbs < 2 ^ b) (hb : b ≤ 250) : i.natAbs < 2 ^ 250 := by
  have := Nat.pow_le_pow_right (n := 2) (by decide) hb
  omega
theorem denI (a : Rat) : 0 < (a.den : Int) := by have := a.den_pos; omega
theorem Bd.d {b : Nat} {a : Rat} (h : Bd b a) : ((a.den : Nat) : Int).natAbs < 2 ^ b := by have := h.2; omega
theorem num_pos' {b : Rat} (h : 0 < b) : 0 < b.num := by
  have := (Rat.lt_iff 0 b).mp h
  simpa using this
theorem mul_divInt (a b : Rat) : Rat.divInt (a.num * b.num) (a.den * b.den) = a * b := by
  have := Rat.divInt_mul_divInt a.num b.num (d₁ := a.den) (d₂ := b.den)
  rw [Rat.num_divInt_den, Rat.num_divInt_den] at this
  rw [this]
theorem add_divInt (a b : Rat) : Rat.divInt (a.num * b.den + b.num * a.den) (a.den * b.den) = a + b := by
  have := Rat.divInt_add_divInt a.num b.num (d₁ := a.den) (d₂ := b.den) (by have := denI a; omega) (by have := denI b; omega)
  rw [Rat.num_divInt_den, Rat.num_divInt_den] at this
  rw [this]
theorem div_divInt (a b : Rat) : Rat.divInt (a.num * b.den) (a.den * b.num) = a / b := by
  rw [Rat.div_def]
  have e : b⁻¹ = Rat.divInt b.den b.num := by
    have := Rat.inv_divInt b.num b.den
    rw [Rat.num_divInt_den] at this
    exact this
  rw [e]
  have := Rat.divInt_mul_divInt a.num b.den (d₁ := a.den) (d₂ := b.num)
  rw [Rat.num_divInt_den] at this
  rw [this]
theorem times_raw (x y u v z t : Int) (c : D) (m1 : mulD (.int x) (.int u) = .ok (.int z)) (m2 : mulD (.int y) (.int v) = .ok (.int t)) (f : rv (m_frac [.int z, .int t]) = .ok c) : rv (m_times [.tup [.int x, .int y], .tup [.int u, .int v]]) = .ok c := by
  unfold m_times
  rw [rv_fn]
  unfold b_times
  simp [m1, m2, f]
theorem lmul_raw (x y u v z t : Int) (c : D) (m1 : mulD (.int x) (.int u) = .ok (.int z)) (m2 : mulD (.int y) (.int v) = .ok (.int t)) (f : rv (m_f_law_ratio [.int z, .int t]) = .ok c) : rv (m_f_law_mul [.tup [.int x, .int y], .tup [.int u, .int v]]) = .ok c := by
  unfold m_f_law_mul
  rw [rv_fn]
  unfold b_f_law_mul
  simp [m1, m2, f]
theorem plus_raw (x y u v z t r : Int) (c : D) (m1 : mulD (.int x) (.int v) = .ok (.int z)) (m2 : mulD (.int u) (.int y) = .ok (.int r)) (m3 : mulD (.int y) (.int v) = .ok (.int t)) (f : rv (m_frac [.int (z + r), .int t]) = .ok c) : rv (m_plus [.tup [.int x, .int y], .tup [.int u, .int v]]) = .ok c := by
  unfold m_plus
  rw [rv_fn]
  unfold b_plus
  simp [m1, m2, m3, f]
theorem ladd_raw (x y u v z t r : Int) (c : D) (m1 : mulD (.int x) (.int v) = .ok (.int z)) (m2 : mulD (.int u) (.int y) = .ok (.int r)) (m3 : mulD (.int y) (.int v) = .ok (.int t)) (f : rv (m_f_law_ratio [.int (z + r), .int t]) = .ok c) : rv (m_f_law_add [.tup [.int x, .int y], .tup [.int u, .int v]]) = .ok c := by
  unfold m_f_law_add
  rw [rv_fn]
  unfold b_f_law_add
  simp [m1, m2, m3, f]
theorem less_raw (x y u v z r : Int) (m1 : mulD (.int x) (.int v) = .ok (.int z)) (m2 : mulD (.int u) (.int y) = .ok (.int r)) : rv (m_less [.tup [.int x, .int y], .tup [.int u, .int v]]) = .ok (.bl (decide (z < r))) := by
  unfold m_less
  rw [rv_fn]
  unfold b_less
  simp [m1, m2]
section
variable {a b : Rat} {i j : Nat} (ha : Bd i a) (hb : Bd j b)
include ha hb
theorem mul_bd : Bd (i + j) (a * b) := by
  rw [← mul_divInt]
  exact frac_bd (Int.mul_pos (denI a) (denI b)) (bmul ha.1 hb.1) (bmul ha.d hb.d)
theorem add_bd : Bd (i + j + 1) (a + b) := by
  rw [← add_divInt]
  refine frac_bd (Int.mul_pos (denI a) (denI b)) ?_ ?_
  · have h1 := bmul ha.1 hb.d
    have h2 := bmul hb.1 ha.d
    rw [Nat.add_comm j i] at h2
    rw [Nat.pow_succ]
    have := Int.natAbs_add_le (a.num * b.den) (b.num * a.den)
    omega
  · have h1 := bmul ha.d hb.d
    rw [Nat.pow_succ]
    omega
theorem div_bd (h0 : 0 < b) : Bd (i + j) (a / b) := by
  have hn : 0 < b.num := num_pos' h0
  rw [← div_divInt]
  exact frac_bd (Int.mul_pos (denI a) hn) (bmul ha.1 hb.d) (bmul ha.d hb.1)
variable (hi : i ≤ 60) (hj : j ≤ 60)
include hi hj
theorem times_ok : rv (m_times [frD a, frD b]) = .ok (frD (a * b)) := by
  have m1 : mulD (.int a.num) (.int b.num) = .ok (.int (a.num * b.num)) := mulD_int (mul_small (p64 ha.1 hi))
  have m2 : mulD (.int a.den) (.int b.den) = .ok (.int (a.den * b.den)) := mulD_int (mul_small (p64 ha.d hi))
  have f := frac_ok (p := a.num * b.num) (q := a.den * b.den) (Int.mul_pos (denI a) (denI b)) (p250 (bmul ha.d hb.d) (by omega))
  rw [mul_divInt] at f
  exact times_raw _ _ _ _ _ _ _ m1 m2 f
theorem lmul_ok : rv (m_f_law_mul [frD a, frD b]) = .ok (frD (a * b)) := by
  have m1 : mulD (.int a.num) (.int b.num) = .ok (.int (a.num * b.num)) := mulD_int (mul_small (p64 ha.1 hi))
  have m2 : mulD (.int a.den) (.int b.den) = .ok (.int (a.den * b.den)) := mulD_int (mul_small (p64 ha.d hi))
  have f := lratio_ok (p := a.num * b.num) (q := a.den * b.den) (Int.mul_pos (denI a) (denI b)) (p250 (bmul ha.d hb.d) (by omega))
  rw [mul_divInt] at f
  exact lmul_raw _ _ _ _ _ _ _ m1 m2 f
theorem plus_ok : rv (m_plus [frD a, frD b]) = .ok (frD (a + b)) := by
  have m1 : mulD (.int a.num) (.int b.den) = .ok (.int (a.num * b.den)) := mulD_int (mul_small (p64 ha.1 hi))
  have m2 : mulD (.int b.num) (.int a.den) = .ok (.int (b.num * a.den)) := mulD_int (mul_small (p64 hb.1 hj))
  have m3 : mulD (.int a.den) (.int b.den) = .ok (.int (a.den * b.den)) := mulD_int (mul_small (p64 ha.d hi))
  have f := frac_ok (p := a.num * b.den + b.num * a.den) (q := a.den * b.den) (Int.mul_pos (denI a) (denI b)) (p250 (bmul ha.d hb.d) (by omega))
  rw [add_divInt] at f
  exact plus_raw _ _ _ _ _ _ _ _ m1 m2 m3 f
theorem ladd_ok : rv (m_f_law_add [frD a, frD b]) = .ok (frD (a + b)) := by
  have m1 : mulD (.int a.num) (.int b.den) = .ok (.int (a.num * b.den)) := mulD_int (mul_small (p64 ha.1 hi))
  have m2 : mulD (.int b.num) (.int a.den) = .ok (.int (b.num * a.den)) := mulD_int (mul_small (p64 hb.1 hj))
  have m3 : mulD (.int a.den) (.int b.den) = .ok (.int (a.den * b.den)) := mulD_int (mul_small (p64 ha.d hi))
  have f := lratio_ok (p := a.num * b.den + b.num * a.den) (q := a.den * b.den) (Int.mul_pos (denI a) (denI b)) (p250 (bmul ha.d hb.d) (by omega))
  rw [add_divInt] at f
  exact ladd_raw _ _ _ _ _ _ _ _ m1 m2 m3 f
theorem less_ok : rv (m_less [frD a, frD b]) = .ok (.bl (decide (a < b))) := by
  have m1 : mulD (.int a.num) (.int b.den) = .ok (.int (a.num * b.den)) := mulD_int (mul_small (p64 ha.1 hi))
  have m2 : mulD (.int b.num) (.int a.den) = .ok (.int (b.num * a.den)) := mulD_int (mul_small (p64 hb.1 hj))
  exact (less_raw _ _ _ _ _ _ m1 m2).trans (by rw [show decide (a.num * b.den < b.num * a.den) = decide (a < b) from decide_eq_decide.mpr (Rat.lt_iff a b).symm])
end
section
variable {a b : Rat} {i j : Nat} (ha : Bd i a) (hb : Bd j b) (hi : i ≤ 60) (hj : j ≤ 60)
include ha hb hi hj
end
theorem int_fr (m : Int) : D.tup [.int m, .int 1] = frD (m : Rat) := by
  unfold frD
  simp
theorem int_bd {m : Int} {b : Nat} (h : m.natAbs < 2 ^ b) (h1 : 1 ≤ b) : Bd b (m : Rat) := by
  constructor
  · simpa using h
  · have := Nat.pow_le_pow_right (n := 2) (by decide) h1
    simp; omega
end DL.G
namespace DL.G
open PySem PySem.Spec L2
set_option autoImplicit false
/-! ### sixths: every number of a price list is a whole number of sixths -/
def Sx (N : Nat) (q : Rat) : Prop := ∃ k : Int, q * 6 = (k : Rat) ∧ k.natAbs ≤ N
theorem sub_divInt (a b : Rat) : Rat.divInt (a.num * b.den - b.num * a.den) (a.den * b.den) = a - b := by
  have h := add_divInt a (-b)
  rw [Rat.neg_num, Rat.neg_den] at h
  rw [Rat.sub_eq_add_neg, ← h]
  congr 1
  rw [Int.neg_mul]
  omega
theorem minus_raw (x y u v z t r : Int) (c : D) (m1 : mulD (.int x) (.int v) = .ok (.int z)) (m2 : mulD (.int u) (.int y) = .ok (.int r)) (m3 : mulD (.int y) (.int v) = .ok (.int t)) (f : rv (m_frac [.int (z - r), .int t]) = .ok c) : rv (m_minus [.tup [.int x, .int y], .tup [.int u, .int v]]) = .ok c := by
  unfold m_minus
  rw [rv_fn]
  unfold b_minus
  simp [m1, m2, m3, f]
theorem lless_raw (x y u v z r : Int) (m1 : mulD (.int x) (.int v) = .ok (.int z)) (m2 : mulD (.int u) (.int y) = .ok (.int r)) : rv (m_f_law_less [.tup [.int x, .int y], .tup [.int u, .int v]]) = .ok (.bl (decide (z < r))) := by
  unfold m_f_law_less
  rw [rv_fn]
  unfold b_f_law_less
  simp [m1, m2]
section
variable {a b : Rat} {i j : Nat} (ha : Bd i a) (hb : Bd j b) (hi : i ≤ 60) (hj : j ≤ 60)
include ha hb hi hj
theorem minus_ok : rv (m_minus [frD a, frD b]) = .ok (frD (a - b)) := by
  have m1 : mulD (.int a.num) (.int b.den) = .ok (.int (a.num * b.den)) := mulD_int (mul_small (p64 ha.1 hi))
  have m2 : mulD (.int b.num) (.int a.den) = .ok (.int (b.num * a.den)) := mulD_int (mul_small (p64 hb.1 hj))
  have m3 : mulD (.int a.den) (.int b.den) = .ok (.int (a.den * b.den)) := mulD_int (mul_small (p64 ha.d hi))
  have f := frac_ok (p := a.num * b.den - b.num * a.den) (q := a.den * b.den) (Int.mul_pos (denI a) (denI b)) (p250 (bmul ha.d hb.d) (by omega))
  rw [sub_divInt] at f
  exact minus_raw _ _ _ _ _ _ _ _ m1 m2 m3 f
theorem lless_ok : rv (m_f_law_less [frD a, frD b]) = .ok (.bl (decide (a < b))) := by
  have m1 : mulD (.int a.num) (.int b.den) = .ok (.int (a.num * b.den)) := mulD_int (mul_small (p64 ha.1 hi))
  have m2 : mulD (.int b.num) (.int a.den) = .ok (.int (b.num * a.den)) := mulD_int (mul_small (p64 hb.1 hj))
  exact (lless_raw _ _ _ _ _ _ m1 m2).trans (by rw [show decide (a.num * b.den < b.num * a.den) = decide (a < b) from decide_eq_decide.mpr (Rat.lt_iff a b).symm])
end
section
variable {a b : Rat} {M N : Nat}
theorem Sx.mono (h : Sx M a) (l : M ≤ N) : Sx N a := let ⟨k, h1, h2⟩ := h; ⟨k, h1, by omega⟩
theorem Sx.add (ha : Sx M a) (hb : Sx N b) : Sx (M + N) (a + b) := by
  obtain ⟨k, h1, h2⟩ := ha
  obtain ⟨l, h3, h4⟩ := hb
  refine ⟨k + l, ?_, by omega⟩
  rw [Rat.add_mul, h1, h3, Rat.intCast_add]
theorem Sx.neg (ha : Sx M a) : Sx M (-a) := by
  obtain ⟨k, h1, h2⟩ := ha
  refine ⟨-k, ?_, by omega⟩
  rw [Rat.neg_mul, h1, Rat.intCast_neg]
theorem Sx.sub (ha : Sx M a) (hb : Sx N b) : Sx (M + N) (a - b) := by
  rw [Rat.sub_eq_add_neg]
  exact ha.add hb.neg
theorem Sx.mulI (ha : Sx M a) {n : Int} {B : Nat} (hn : n.natAbs ≤ B) : Sx (M * B) (a * (n : Rat)) := by
  obtain ⟨k, h1, h2⟩ := ha
  refine ⟨k * n, ?_, ?_⟩
  · rw [Rat.mul_assoc, Rat.mul_comm (n : Rat) 6, ← Rat.mul_assoc, h1, Rat.intCast_mul]
  · rw [Int.natAbs_mul]
    exact Nat.mul_le_mul h2 hn
theorem Sx.int {n : Int} (hn : n.natAbs ≤ N) : Sx (6 * N) (n : Rat) := ⟨n * 6, by rw [Rat.intCast_mul]; rfl, by omega⟩
theorem Sx.zero : Sx N (0 : Rat) := ⟨0, by rw [Rat.zero_mul]; rfl, by simp⟩
theorem Sx.bd (h : Sx N a) (hN : N < 2 ^ 50) : Bd 50 a := by
  obtain ⟨k, h1, h2⟩ := h
  have e : a = Rat.divInt k 6 := by
    rw [Rat.divInt_eq_div, ← h1]
    show a = a * 6 / 6
    grind
  rw [e]
  exact frac_bd (by decide) (by omega) (by decide)
theorem Sx.frac {p q : Int} (h0 : 0 < q) (hd : q ∣ 6) (hp : p.natAbs ≤ N) : Sx (6 * N) (Rat.divInt p q) := by
  obtain ⟨c, hc⟩ := hd
  have c0 : 0 < c := by
    rcases Int.lt_or_le 0 c with h | h
    · exact h
    · have : q * c ≤ 0 := Int.mul_nonpos_of_nonneg_of_nonpos (by omega) h
      omega
  have c6 : c ≤ 6 := by
    have : 1 * c ≤ q * c := Int.mul_le_mul_of_nonneg_right (by omega) (by omega)
    omega
  refine ⟨p * c, ?_, ?_⟩
  · rw [Rat.divInt_eq_div, show (6 : Rat) = ((q * c : Int) : Rat) from by rw [← hc]; rfl, Rat.intCast_mul, Rat.intCast_mul, Rat.div_def]
    have hq : ((q : Int) : Rat) ≠ 0 := by
      intro z
      have : q = 0 := by exact_mod_cast z
      omega
    rw [Rat.mul_assoc, ← Rat.mul_assoc ((q : Rat)⁻¹), Rat.inv_mul_cancel _ hq, Rat.one_mul]
  · rw [Int.natAbs_mul]
    have : c.natAbs ≤ 6 := by omega
    rw [Nat.mul_comm]
    exact Nat.mul_le_mul this hp
end
theorem plusS {a b : Rat} {M N : Nat} (ha : Sx M a) (hb : Sx N b) (hM : M < 2 ^ 50) (hN : N < 2 ^ 50) : rv (m_plus [frD a, frD b]) = .ok (frD (a + b)) := plus_ok (ha.bd hM) (hb.bd hN) (by decide) (by decide)
theorem minusS {a b : Rat} {M N : Nat} (ha : Sx M a) (hb : Sx N b) (hM : M < 2 ^ 50) (hN : N < 2 ^ 50) : rv (m_minus [frD a, frD b]) = .ok (frD (a - b)) := minus_ok (ha.bd hM) (hb.bd hN) (by decide) (by decide)
theorem laddS {a b : Rat} {M N : Nat} (ha : Sx M a) (hb : Sx N b) (hM : M < 2 ^ 50) (hN : N < 2 ^ 50) : rv (m_f_law_add [frD a, frD b]) = .ok (frD (a + b)) := ladd_ok (ha.bd hM) (hb.bd hN) (by decide) (by decide)
theorem lessS {a b : Rat} {M N : Nat} (ha : Sx M a) (hb : Sx N b) (hM : M < 2 ^ 50) (hN : N < 2 ^ 50) : rv (m_less [frD a, frD b]) = .ok (.bl (decide (a < b))) := less_ok (ha.bd hM) (hb.bd hN) (by decide) (by decide)
theorem llessS {a b : Rat} {M N : Nat} (ha : Sx M a) (hb : Sx N b) (hM : M < 2 ^ 50) (hN : N < 2 ^ 50) : rv (m_f_law_less [frD a, frD b]) = .ok (.bl (decide (a < b))) := lless_ok (ha.bd hM) (hb.bd hN) (by decide) (by decide)
theorem timesS {a : Rat} {n : Int} {M : Nat} (ha : Sx M a) (hM : M < 2 ^ 50) (hn : n.natAbs < 2 ^ 50) : rv (m_times [frD a, frD (n : Rat)]) = .ok (frD (a * (n : Rat))) := times_ok (ha.bd hM) (int_bd (b := 50) hn (by decide)) (by decide) (by decide)
theorem lmulS {a : Rat} {n : Int} {M : Nat} (ha : Sx M a) (hM : M < 2 ^ 50) (hn : n.natAbs < 2 ^ 50) : rv (m_f_law_mul [frD a, frD (n : Rat)]) = .ok (frD (a * (n : Rat))) := lmul_ok (ha.bd hM) (int_bd (b := 50) hn (by decide)) (by decide) (by decide)
theorem frac1 (n : Int) : rv (m_frac [.int n, .int 1]) = .ok (frD (n : Rat)) := by
  rw [frac_ok (by decide) (by decide)]
  congr 2
  rw [Rat.divInt_eq_div, show ((1 : Int) : Rat) = 1 from rfl]
  grind
theorem frD0 : D.tup [.int 0, .int 1] = frD 0 := by
  have := int_fr 0
  simpa using this
theorem frD_inj {a b : Rat} (h : frD a = frD b) : a = b := by
  unfold frD at h
  injection h with h
  injection h with h1 h2
  injection h1 with h1
  injection h2 with h2 _
  injection h2 with h2
  exact Rat.ext h1 (by omega)
theorem eqFr (a b : Rat) : eqD (frD a) (frD b) = .ok (decide (a = b)) := by
  show eqD (.tup [.int a.num, .int (a.den : Int)]) (.tup [.int b.num, .int (b.den : Int)]) = _
  rw [eqD_pair]
  congr 1
  by_cases c : a = b
  · subst c; simp
  · rw [decide_eq_false c]
    by_cases c1 : a.num = b.num
    · have c2 : ¬ ((a.den : Int) = (b.den : Int)) := fun z => c (Rat.ext c1 (by omega))
      rw [decide_eq_false c2, Bool.and_false]
    · rw [decide_eq_false c1, Bool.false_and]
theorem neFr (a b : Rat) : neD (frD a) (frD b) = .ok (!decide (a = b)) := by
  unfold neD; rw [eqFr]
theorem frac_pos {a : Rat} : (0 < a.num) ↔ 0 < a := by
  constructor
  · intro h
    have h1 : 0 ≤ a := Rat.num_nonneg.mp (by omega)
    have h2 : a ≠ 0 := fun z => by subst z; simp at h
    grind
  · intro h
    have h1 : 0 ≤ a.num := Rat.num_nonneg.mpr (by grind)
    have h2 : a.num ≠ 0 := fun z => by
      have := Rat.num_eq_zero.mp z
      grind
    omega
end DL.G
namespace DL.G
open PySem PySem.Spec L2
set_option autoImplicit false
/-! ### the spaces -/
def spD (S : List Str) (T : Str → Int) : D := .lst (S.map (tupS fun n => .int (T n)))
def lets : List Str := ["a", "m", "x", "day"]
def dig (k : Nat) : Str := (toString (k : Int) : String)
def opt (k : Nat) : List Str := lets.map (· ++ dig k)
theorem strD_dig {k : Nat} (h : k < 1000) : strD (.int (k : Int)) = .ok (.str (dig k)) := by
  have : (k : Int).natAbs.log2 < 1920 := by
    have := log2_le (b := 20) (n := (k : Int).natAbs) (by omega)
    omega
  show (if (k : Int).natAbs.log2 < 1920 then Res.ok (D.str (toString (k : Int) : String)) else .bad) = _
  rw [if_pos this]
  rfl
theorem opt_ne : ∀ i j : Nat, i < j → j < 3 → ∀ a ∈ opt i, ∀ b ∈ opt j, a ≠ b := by
  intro i j h1 h2
  have : (i = 0 ∧ j = 1) ∨ (i = 0 ∧ j = 2) ∨ (i = 1 ∧ j = 2) := by omega
  rcases this with ⟨rfl, rfl⟩ | ⟨rfl, rfl⟩ | ⟨rfl, rfl⟩ <;> decide +kernel
theorem opt_ok : ∀ i : Nat, i < 3 → ∀ a ∈ opt i, PyData.strOk a = true := by
  intro i h
  have : i = 0 ∨ i = 1 ∨ i = 2 := by omega
  rcases this with rfl | rfl | rfl <;> decide +kernel
theorem cat_len : ∀ i : Nat, i < 3 → ∀ a ∈ lets, a.length + (dig i).length < 10000 := by
  intro i h
  have : i = 0 ∨ i = 1 ∨ i = 2 := by omega
  rcases this with rfl | rfl | rfl <;> decide +kernel
theorem fun_of_pairs {α : Type} [Inhabited α] : ∀ (ps : List (Str × α)), (ps.map Prod.fst).Nodup → ∃ T : Str → α, ps = (ps.map Prod.fst).map fun n => (n, T n)
  | [], _ => ⟨fun _ => default, rfl⟩
  | a :: ps, h => by
    rw [List.map_cons, List.nodup_cons] at h
    obtain ⟨T, e⟩ := fun_of_pairs ps h.2
    refine ⟨fun n => if n = a.1 then a.2 else T n, ?_⟩
    rw [List.map_cons, List.map_cons]
    congr 1
    · simp
    refine e.trans (List.map_congr_left fun n hn => ?_)
    have : ¬ n = a.1 := fun z => h.1 (z ▸ hn)
    simp [this]
/-- names of the law's spaces: all different, plain -/
structure Names (S : List Str) : Prop where
  nd : S.Nodup
  ok : ∀ n ∈ S, PyData.strOk n = true
  l0 : 1 ≤ S.length
  l3 : S.length ≤ 3
theorem names_of {L : List Str} (h0 : 1 ≤ L.length) (h3 : L.length ≤ 3) (h : ∀ i a, L[i]? = some a → a ∈ opt i) : Names L := by
  refine ⟨?_, fun n hn => ?_, h0, h3⟩
  · rw [List.nodup_iff_pairwise_ne, List.pairwise_iff_getElem]
    intro i j hi hj hij
    exact opt_ne i j hij (by omega) _ (h i _ (List.getElem?_eq_getElem hi)) _ (h j _ (List.getElem?_eq_getElem hj))
  · obtain ⟨i, hi, e⟩ := List.getElem_of_mem hn
    exact opt_ok i (by omega) n (e ▸ h i _ (List.getElem?_eq_getElem hi))
theorem Names.perm {S L : List Str} (h : Names S) (p : L.Perm S) : Names L := ⟨p.nodup_iff.mpr h.nd, fun n hn => h.ok n (p.mem_iff.mp hn), by rw [p.length_eq]; exact h.l0, by rw [p.length_eq]; exact h.l3⟩
theorem names_loop {ns : List Int} {d : D} {most top : Int} (h : PoolOk ns d) {m : Nat} (hm : m ≤ 3) : ∃ (L : List Str) (d' : D) (j : Option D), forM (gSet 4) l_f_law_space_1 (rngL 0 (m : Int)) [some d, some (.int most), some (.int top), some (.lst []), none, none] = .ok (.nx, [some d', some (.int most), some (.int top), some (.lst (L.map D.str)), j, none]) ∧ PoolOk ns d' ∧ L.length = m ∧ ∀ i a, L[i]? = some a → a ∈ opt i := by
  obtain ⟨ρ', q1, q2⟩ := for_rng (t := gSet 4) (b := l_f_law_space_1) 0 (m : Int) (fun k ρ => ∃ (L : List Str) (d' : D) (j : Option D), ρ = [some d', some (.int most), some (.int top), some (.lst (L.map D.str)), j, none] ∧ PoolOk ns d' ∧ L.length = k ∧ ∀ i a, L[i]? = some a → a ∈ opt i) [some d, some (.int most), some (.int top), some (.lst []), none, none] ⟨[], d, none, rfl, h, rfl, fun i a z => by simp at z⟩ fun k ρ hk ⟨L, d', j, e, p, hl, hL⟩ => by
    subst e
    obtain ⟨x, d2, e2, p2, hx⟩ := pick_ok (xs := lets.map D.str) p (by decide) (by decide)
    obtain ⟨a, ha, rfl⟩ := List.mem_map.mp hx
    have s1 : strD (.int (0 + (k : Int))) = .ok (.str (dig k)) := by rw [Int.zero_add]; exact strD_dig (by omega)
    have s2 : addD (.str a) (.str (dig k)) = .ok (.str (a ++ dig k)) := addS_ok (cat_len k (by omega) a ha)
    have s3 : appendD (L.map D.str) (.str (a ++ dig k)) = .ok ((L ++ [a ++ dig k]).map D.str, .non) := by
      rw [appendD_lt (by rw [List.length_map]; omega), List.map_append]; rfl
    have e3 : m_f_law_pick [d', .lst [.str "a", .str "m", .str "x", .str "day"]] = .ok (.str a, [d2, .lst [.str "a", .str "m", .str "x", .str "day"]]) := e2
    refine ⟨_, _, rfl, ?_, L ++ [a ++ dig k], d2, some (.int (0 + (k : Int))), rfl, p2, by simp [hl], fun i b hb => ?_⟩
    · unfold l_f_law_space_1
      simp only [Int.zero_add] at s1 ⊢
      generalize L.map D.str = LL at s3 ⊢
      simp [e3, s1, s2, s3]
    · rw [List.getElem?_append] at hb
      split at hb
      · exact hL i b hb
      · rename_i hi
        have : i - L.length = 0 := by
          have := (List.getElem?_eq_some_iff.mp hb).1
          simp at this; omega
        rw [this] at hb
        have hb' : a ++ dig k = b := by simpa using hb
        have hi' : i = k := by omega
        rw [hi', ← hb']
        exact List.mem_map.mpr ⟨a, ha, rfl⟩
  obtain ⟨L, d', j, e, p, hl, hL⟩ := q2
  exact ⟨L, d', j, by rw [q1, e], p, by rw [hl]; omega, hL⟩
theorem space_ok {ns : List Int} {d : D} {most top : Int} (h : PoolOk ns d) (h1 : 1 ≤ most) (h3 : most ≤ 3) (ht : 0 ≤ top) (ht2 : top < 2 ^ 40) : ∃ (S : List Str) (T : Str → Int) (d' : D), m_f_law_space [d, .int most, .int top] = .ok (spD S T, [d', .int most, .int top]) ∧ PoolOk ns d' ∧ Names S ∧ S.length ≤ most ∧ ∀ n ∈ S, 0 ≤ T n ∧ T n ≤ top := by
  obtain ⟨v, d1, e1, p1, v1, v2⟩ := draw_ok (L := most) h (by omega) (by omega)
  obtain ⟨m, hm⟩ : ∃ m : Nat, 1 + v = (m : Int) := ⟨(1 + v).toNat, by omega⟩
  obtain ⟨L, d2, j, e2, p2, hl, hL⟩ := names_loop (most := most) (top := top) p1 (m := m) (by omega)
  have NL : Names L := names_of (by omega) (by omega) hL
  obtain ⟨k, d3, e3, p3⟩ := turned_ok (xs := L.map D.str) p2 (by rw [List.length_map]; omega)
  have eS : (L.map D.str).drop k ++ (L.map D.str).take k = (L.drop k ++ L.take k).map D.str := by rw [List.map_append, List.map_drop, List.map_take]
  have NS : Names (L.drop k ++ L.take k) := NL.perm ((List.perm_append_comm).trans (by rw [List.take_append_drop]))
  have lS : (L.drop k ++ L.take k).length = L.length := by simp; omega
  rw [eS] at e3
  generalize L.drop k ++ L.take k = S at NS e3 lS
  have r1 : rng1D (.int (m : Int)) = .ok (rngL 0 (m : Int)) := rng1_ok (by omega)
  obtain ⟨out, ρ', q1, d4, ps, f1, f2, f3, f4, f5⟩ := compM_rel (vs := [5]) (t := gSet 5) (e := eL gTup (eCons (eVar 5) (eCons (eCall [some 0, none] m_f_law_draw (eConsO 0 (eCons (DL.e2 addD (eVar 2) (eRet (.int 1))) eNil))) eNil))) D.str
    (fun pre acc ρ => ∃ (d' : D) (ps : List (Str × Int)), ps.map Prod.fst = pre ∧ acc = ps.map (fun p => D.tup [.str p.1, .int p.2]) ∧ (∀ p ∈ ps, 0 ≤ p.2 ∧ p.2 ≤ top) ∧ PoolOk ns d' ∧ ρ = [some d', some (.int most), some (.int top), some (.lst (L.map D.str)), j, none])
    S [] [] [some d3, some (.int most), some (.int top), some (.lst (L.map D.str)), j, none] ⟨d3, [], rfl, rfl, by simp, p3, rfl⟩ (by simp; omega) fun x pre acc ρ hx ⟨d', ps, g1, g2, g3, g4, g5⟩ => by
      subst g5
      obtain ⟨w, d5, e5, p5, w1, w2⟩ := draw_ok (L := top + 1) g4 (by omega) (by omega)
      generalize L.map D.str = LL
      refine ⟨_, .tup [.str x, .int w], [some d5, some (.int most), some (.int top), some (.lst LL), j, some (.str x)], rfl, ?_, d5, ps ++ [(x, w)], by simp [g1], by simp [g2], fun p hp => ?_, p5, rfl⟩
      · simp [e5]
      · rcases List.mem_append.mp hp with hp | hp
        · exact g3 p hp
        · cases (List.mem_singleton.mp hp)
          exact ⟨w1, by omega⟩
  have hps : (ps.map Prod.fst).Nodup := by rw [f1]; exact NS.nd
  obtain ⟨T, eT⟩ := fun_of_pairs ps hps
  rw [f1, List.nil_append] at eT
  refine ⟨S, T, d4, ?_, f4, NS, by omega, fun n hn => ?_⟩
  · have eo : out = S.map (tupS fun n => .int (T n)) := by
      rw [f2, eT, List.map_map]
      rfl
    unfold spD
    rw [← eo]
    unfold m_f_law_space fnM b_f_law_space
    generalize L.map D.str = LL at e2 q1 f5 e3
    generalize S.map D.str = SS at e3 q1
    subst f5
    simp [e1, hm, r1, e2, e3, wipeE, q1, restE, fin]
  · have : (n, T n) ∈ ps := by rw [eT]; exact List.mem_map.mpr ⟨n, hn, rfl⟩
    exact f3 _ this
end DL.G
namespace DL.G
open PySem PySem.Spec L2
set_option autoImplicit false
/-! ### boxes that part a space -/
structure Bo where
  lo : Str → Int
  hi : Str → Int
def rgD (a b : Int) : D := .tup [.int a, .int b]
def bxD (S : List Str) (b : Bo) : D := dS S fun n => rgD (b.lo n) (b.hi n)
def inB (S : List Str) (x : Str → Int) (b : Bo) : Bool := S.all fun n => decide (b.lo n ≤ x n) && decide (x n ≤ b.hi n)
def InSp (S : List Str) (T : Str → Int) (x : Str → Int) : Prop := ∀ n ∈ S, 0 ≤ x n ∧ x n ≤ T n
structure Part (S : List Str) (T : Str → Int) (B : List Bo) : Prop where
  ok : ∀ b ∈ B, ∀ n ∈ S, 0 ≤ b.lo n ∧ b.lo n ≤ b.hi n ∧ b.hi n ≤ T n
  one : ∀ x, InSp S T x → B.countP (inB S x) = 1
theorem inB_iff {S : List Str} {x : Str → Int} {b : Bo} : inB S x b = true ↔ ∀ n ∈ S, b.lo n ≤ x n ∧ x n ≤ b.hi n := by
  unfold inB
  simp [List.all_eq_true]
theorem boxM_ok (T : Str → Int) : ∀ (S done : List Str) (r : List (Option D)) (a b c e : Option D), (done ++ S).Nodup → done.length + S.length < 10000 → ∃ a' b', boxM (gTupT 2 (gsCons (gSet 4) (gsCons (gSet 5) gsNil))) 4 5 (S.map (tupS fun n => .int (T n))) (c :: e :: r.getD 0 none :: r.getD 1 none :: a :: b :: r.drop 2) (kvS done fun n => rgD 0 (T n)) = .ok (kvS (done ++ S) fun n => rgD 0 (T n), c :: e :: r.getD 0 none :: r.getD 1 none :: a' :: b' :: r.drop 2)
  | [], done, r, a, b, c, e, hn, hz => ⟨a, b, by simp [boxM]⟩
  | n :: S, done, r, a, b, c, e, hn, hz => by
    have nk : n ∉ done := fun z => (List.nodup_append.mp hn).2.2 _ z _ List.mem_cons_self rfl
    obtain ⟨a', b', h⟩ := boxM_ok T S (done ++ [n]) r (some (.str n)) (some (.int (T n))) c e (by simpa using hn) (by simp at hz ⊢; omega)
    refine ⟨a', b', ?_⟩
    rw [List.map_cons]
    unfold boxM tupS
    simp only [ap_gtup, List.length_cons, List.length_nil, ap_gscons, ap_gset, ap_gsnil, List.set_cons_succ, List.set_cons_zero, if_true, List.getElem?_cons_succ, List.getElem?_cons_zero]
    show (if (kvS done fun n => rgD 0 (T n)).length < sizeLine then _ else _) = _
    rw [if_pos (by rw [kvS_len, sizeLine_eq]; simp at hz; omega), put_kvS, if_neg nk]
    rw [kvS_congr (g := fun n => rgD 0 (T n)) (fun k _ => by by_cases q : k = n <;> simp [q, rgD])]
    rw [List.append_assoc] at h
    exact h
theorem Part.first {S : List Str} {T : Str → Int} (h : ∀ n ∈ S, 0 ≤ T n) : Part S T [⟨fun _ => 0, T⟩] := by
  refine ⟨fun b hb n hn => ?_, fun x hx => ?_⟩
  · cases List.mem_singleton.mp hb
    exact ⟨Int.le_refl _, h n hn, Int.le_refl _⟩
  · have : inB S x ⟨fun _ => 0, T⟩ = true := inB_iff.mpr hx
    rw [List.countP_cons_of_pos this, List.countP_nil]
theorem Part.split {S : List Str} {T : Str → Int} {B : List Bo} (h : Part S T B) {k : Nat} {b : Bo} (hb : B[k]? = some b) {n : Str} (hn : n ∈ S) {c : Int} (h1 : b.lo n ≤ c) (h2 : c < b.hi n) :
    Part S T (B.take k ++ ([⟨b.lo, fun x => if x = n then c else b.hi x⟩, ⟨fun x => if x = n then c + 1 else b.lo x, b.hi⟩] ++ B.drop (k + 1))) := by
  have hk : k < B.length := (List.getElem?_eq_some_iff.mp hb).1
  have eB : B = B.take k ++ ([b] ++ B.drop (k + 1)) := by
    have : B[k] = b := (List.getElem?_eq_some_iff.mp hb).2
    rw [← this]
    exact (List.take_append_drop k B).symm.trans (by rw [List.drop_eq_getElem_cons hk]; rfl)
  have mb : b ∈ B := List.mem_of_getElem? hb
  refine ⟨fun b' hb' m hm => ?_, fun x hx => ?_⟩
  · rcases List.mem_append.mp hb' with q | q
    · exact h.ok b' (List.mem_of_mem_take q) m hm
    · rcases List.mem_append.mp q with q | q
      · have hh := h.ok b mb m hm
        have hh2 := h.ok b mb n hn
        simp only [List.mem_cons, List.not_mem_nil, or_false] at q
        rcases q with rfl | rfl
        · dsimp only
          by_cases e : m = n
          · subst e; rw [if_pos rfl]; omega
          · rw [if_neg e]; exact hh
        · dsimp only
          by_cases e : m = n
          · subst e; rw [if_pos rfl]; omega
          · rw [if_neg e]; exact hh
      · exact h.ok b' (List.mem_of_mem_drop q) m hm
  · have o := h.one x hx
    rw [eB] at o
    rw [List.countP_append, List.countP_append] at o ⊢
    have key : List.countP (inB S x) [⟨b.lo, fun x => if x = n then c else b.hi x⟩, ⟨fun x => if x = n then c + 1 else b.lo x, b.hi⟩] = List.countP (inB S x) [b] := by
      have a1 : inB S x ⟨b.lo, fun x => if x = n then c else b.hi x⟩ = (inB S x b && decide (x n ≤ c)) := by
        rw [Bool.eq_iff_iff, Bool.and_eq_true, inB_iff, inB_iff, decide_eq_true_eq]
        constructor
        · intro q
          have qn := q n hn
          dsimp only at qn
          rw [if_pos rfl] at qn
          refine ⟨fun m hm => ?_, qn.2⟩
          have qm := q m hm
          dsimp only at qm
          by_cases e : m = n
          · subst e; omega
          · rw [if_neg e] at qm; exact qm
        · rintro ⟨q, q2⟩ m hm
          have qm := q m hm
          dsimp only
          by_cases e : m = n
          · subst e; rw [if_pos rfl]; exact ⟨qm.1, q2⟩
          · rw [if_neg e]; exact qm
      have a2 : inB S x ⟨fun x => if x = n then c + 1 else b.lo x, b.hi⟩ = (inB S x b && !decide (x n ≤ c)) := by
        rw [Bool.eq_iff_iff, Bool.and_eq_true, inB_iff, inB_iff, Bool.not_eq_true', decide_eq_false_iff_not]
        constructor
        · intro q
          have qn := q n hn
          dsimp only at qn
          rw [if_pos rfl] at qn
          refine ⟨fun m hm => ?_, by omega⟩
          have qm := q m hm
          dsimp only at qm
          by_cases e : m = n
          · subst e; omega
          · rw [if_neg e] at qm; exact qm
        · rintro ⟨q, q2⟩ m hm
          have qm := q m hm
          dsimp only
          by_cases e : m = n
          · subst e; rw [if_pos rfl]; exact ⟨by omega, qm.2⟩
          · rw [if_neg e]; exact qm
      simp only [List.countP_cons, List.countP_nil, a1, a2]
      cases inB S x b <;> cases decide (x n ≤ c) <;> rfl
    rw [key]
    exact o
theorem split_raw1 (d0 d1 d2 d3 SP MN nm tp B0 B1 B2 BT BD BA BB : D) (BM : List D) (lb i lo hi w : Int) (j4 j5 j6 j7 j8 j9 j10 j11 j12 : Option D) (hl : (BM.length : Int) = lb)
    (e1 : m_f_law_draw [d0, .int lb] = .ok (.int i, [d1, .int lb])) (e2 : m_f_law_pick [d1, SP] = .ok (.tup [nm, tp], [d2, SP])) (e3 : ixD (.lst BM) (.int i) = .ok B0) (e4 : ixD B0 nm = .ok (.tup [.int lo, .int hi])) (c : lo < hi)
    (e5 : m_f_law_draw [d2, .int (hi - lo)] = .ok (.int w, [d3, .int (hi - lo)])) (dd : dictD B0 = .ok B0) (s1 : setD1 B0 nm (.tup [.int lo, .int (lo + w)]) = .ok B1) (s2 : setD1 B0 nm (.tup [.int (lo + w + 1), .int hi]) = .ok B2)
    (t1 : slLD (.lst BM) none (some i) = .ok BT) (t2 : slLD (.lst BM) (some (i + 1)) none = .ok BD) (a1 : addD BT (.lst [B1, B2]) = .ok BA) (a2 : addD BA BD = .ok BB) :
    l_f_law_split_1 [some d0, some SP, some MN, some (.lst BM), j4, j5, j6, j7, j8, j9, j10, j11, j12] = .ok (.nx, [some d3, some SP, some MN, some BB, some nm, j5, j6, some (.int i), some (.int lo), some (.int hi), some (.int (lo + w)), some B1, some B2]) := by
  unfold l_f_law_split_1
  simp [hl, e1, e2, e3, e4, c, e5, dd, s1, s2, t1, t2, a1, a2]
theorem split_raw2 (d0 d1 d2 SP MN nm tp B0 : D) (BM : List D) (lb i lo hi : Int) (j4 j5 j6 j7 j8 j9 j10 j11 j12 : Option D) (hl : (BM.length : Int) = lb)
    (e1 : m_f_law_draw [d0, .int lb] = .ok (.int i, [d1, .int lb])) (e2 : m_f_law_pick [d1, SP] = .ok (.tup [nm, tp], [d2, SP])) (e3 : ixD (.lst BM) (.int i) = .ok B0) (e4 : ixD B0 nm = .ok (.tup [.int lo, .int hi])) (c : ¬ lo < hi) :
    l_f_law_split_1 [some d0, some SP, some MN, some (.lst BM), j4, j5, j6, j7, j8, j9, j10, j11, j12] = .ok (.nx, [some d2, some SP, some MN, some (.lst BM), some nm, j5, j6, some (.int i), some (.int lo), some (.int hi), j10, j11, j12]) := by
  unfold l_f_law_split_1
  simp [hl, e1, e2, e3, e4, c]
theorem split_raw (d0 d1 MN r0 r1 : D) (SL : List D) (KV : List (D × D)) (rg : List D) (a' b' j4 j5 j6 j7 j8 j9 j10 j11 j12 : Option D)
    (h : boxM (gTupT 2 (gsCons (gSet 4) (gsCons (gSet 5) gsNil))) 4 5 SL [some d0, some (.lst SL), some MN, none, none, none, none, none, none, none, none, none, none] [] = .ok (KV, [some d0, some (.lst SL), some MN, none, a', b', none, none, none, none, none, none, none]))
    (hr : rng1D MN = .ok rg)
    (q : forM (gSet 6) l_f_law_split_1 rg [some d0, some (.lst SL), some MN, some (.lst [.dic false KV]), a', b', none, none, none, none, none, none, none] = .ok (.nx, [some d1, some (.lst SL), some MN, some r1, j4, j5, j6, j7, j8, j9, j10, j11, j12])) :
    m_f_law_split [d0, .lst SL, MN] = .ok (r1, [d1, .lst SL, MN]) := by
  unfold m_f_law_split fnM b_f_law_split sBox
  simp [h, hr, q, fin]
theorem split_ok {ns : List Int} {d : D} {S : List Str} {T : Str → Int} (h : PoolOk ns d) (hS : Names S) (hT : ∀ n ∈ S, 0 ≤ T n ∧ T n < 2 ^ 40) {many : Nat} (hm : many < 100) : ∃ (B : List Bo) (d' : D), m_f_law_split [d, spD S T, .int (many : Int)] = .ok (.lst (B.map (bxD S)), [d', spD S T, .int (many : Int)]) ∧ PoolOk ns d' ∧ Part S T B ∧ B.length ≤ 1 + many := by
  obtain ⟨a', b', hbox⟩ := boxM_ok T S [] [some (.int (many : Int)), none, none, none, none, none, none, none, none] none none (some d) (some (spD S T)) (by simpa using hS.nd) (by have := hS.l3; simp; omega)
  have hbox' : boxM (gTupT 2 (gsCons (gSet 4) (gsCons (gSet 5) gsNil))) 4 5 (S.map (tupS fun n => .int (T n))) [some d, some (spD S T), some (.int (many : Int)), none, none, none, none, none, none, none, none, none, none] [] = .ok (kvS S fun n => rgD 0 (T n), [some d, some (spD S T), some (.int (many : Int)), none, a', b', none, none, none, none, none, none, none]) := hbox
  have r1 : rng1D (.int (many : Int)) = .ok (rngL 0 (many : Int)) := rng1_ok (by omega)
  have e0 : D.dic false (kvS S fun n => rgD 0 (T n)) = bxD S ⟨fun _ => 0, T⟩ := rfl
  obtain ⟨ρ', q1, B, d', j4, j5, j6, j7, j8, j9, j10, j11, j12, q2, q3, q4, q5⟩ := for_rng (t := gSet 6) (b := l_f_law_split_1) 0 (many : Int) (fun k ρ => ∃ (B : List Bo) (d' : D) (j4 j5 j6 j7 j8 j9 j10 j11 j12 : Option D), ρ = [some d', some (spD S T), some (.int (many : Int)), some (.lst (B.map (bxD S))), j4, j5, j6, j7, j8, j9, j10, j11, j12] ∧ PoolOk ns d' ∧ Part S T B ∧ B.length ≤ 1 + k)
    [some d, some (spD S T), some (.int (many : Int)), some (.lst [bxD S ⟨fun _ => 0, T⟩]), a', b', none, none, none, none, none, none, none] ⟨[⟨fun _ => 0, T⟩], d, a', b', none, none, none, none, none, none, none, rfl, h, Part.first fun n hn => (hT n hn).1, by simp⟩ fun k ρ hk ⟨B, d', j4, j5, j6, j7, j8, j9, j10, j11, j12, eρ, p, hB, hl⟩ => by
      subst eρ
      have hB0 : 0 < B.length := by
        rcases Nat.eq_zero_or_pos B.length with z | z
        · have eB := List.eq_nil_of_length_eq_zero z
          have := hB.one (fun _ => 0) fun n hn => ⟨Int.le_refl _, (hT n hn).1⟩
          rw [eB] at this
          simp at this
        · exact z
      have lB : (B.map (bxD S)).length = B.length := by rw [List.length_map]
      obtain ⟨v, d1, e1, p1, v1, v2⟩ := draw_ok (L := (B.length : Int)) p (by omega) (by omega)
      obtain ⟨i, rfl⟩ : ∃ i : Nat, v = i := ⟨v.toNat, by omega⟩
      have hi : i < B.length := by omega
      obtain ⟨x, d2, e2, p2, hx⟩ := pick_ok (xs := S.map (tupS fun n => .int (T n))) p1 (by rw [List.length_map]; have := hS.l0; omega) (by rw [List.length_map]; have := hS.l3; omega)
      obtain ⟨n, hn, rfl⟩ := List.mem_map.mp hx
      have e2' : m_f_law_pick [d1, spD S T] = .ok (.tup [.str n, .int (T n)], [d2, spD S T]) := e2
      have e3 : ixD (.lst (B.map (bxD S))) (.int (i : Int)) = .ok (bxD S B[i]) := ixL_k (by rw [List.getElem?_map, List.getElem?_eq_getElem hi]; rfl)
      generalize hb : B[i] = b at e3
      have hbi : B[i]? = some b := by rw [List.getElem?_eq_getElem hi, hb]
      have hbo := hB.ok b (List.mem_of_getElem? hbi) n hn
      have hTn := hT n hn
      have e4 : ixD (bxD S b) (.str n) = .ok (.tup [.int (b.lo n), .int (b.hi n)]) := ix_dS hn
      by_cases c : b.lo n < b.hi n
      · obtain ⟨w, d3, e5, p3, w1, w2⟩ := draw_ok (L := b.hi n - b.lo n) p2 (by omega) (by omega)
        have s1 : setD1 (bxD S b) (.str n) (.tup [.int (b.lo n), .int (b.lo n + w)]) = .ok (bxD S ⟨b.lo, fun x => if x = n then b.lo n + w else b.hi x⟩) := by
          unfold bxD
          rw [set_dS (by have := hS.l3; omega), if_pos hn]
          refine congrArg Res.ok (dS_congr fun m _ => ?_)
          by_cases e : m = n
          · subst e; dsimp only; rw [if_pos rfl, if_pos rfl]; rfl
          · dsimp only; rw [if_neg e, if_neg e]
        have s2 : setD1 (bxD S b) (.str n) (.tup [.int (b.lo n + w + 1), .int (b.hi n)]) = .ok (bxD S ⟨fun x => if x = n then b.lo n + w + 1 else b.lo x, b.hi⟩) := by
          unfold bxD
          rw [set_dS (by have := hS.l3; omega), if_pos hn]
          refine congrArg Res.ok (dS_congr fun m _ => ?_)
          by_cases e : m = n
          · subst e; dsimp only; rw [if_pos rfl, if_pos rfl]; rfl
          · dsimp only; rw [if_neg e, if_neg e]
        have t1 : slLD (.lst (B.map (bxD S))) none (some (i : Int)) = .ok (.lst ((B.take i).map (bxD S))) := by
          rw [sl_to (by rw [lB]; omega), List.map_take]
        have t2 : slLD (.lst (B.map (bxD S))) (some ((i : Int) + 1)) none = .ok (.lst ((B.drop (i + 1)).map (bxD S))) := by
          have := sl_from (xs := B.map (bxD S)) (k := i + 1) (by rw [lB]; omega)
          rw [List.map_drop]
          rw [Int.natCast_add] at this
          exact this
        have hP := hB.split hbi hn (c := b.lo n + w) (by omega) (by omega)
        generalize (⟨b.lo, fun x => if x = n then b.lo n + w else b.hi x⟩ : Bo) = b1 at s1 hP
        generalize (⟨fun x => if x = n then b.lo n + w + 1 else b.lo x, b.hi⟩ : Bo) = b2 at s2 hP
        have lt : (B.take i).length = i := by rw [List.length_take]; omega
        have ld : (B.drop (i + 1)).length = B.length - (i + 1) := by rw [List.length_drop]
        have a1 : addD (.lst ((B.take i).map (bxD S))) (.lst [bxD S b1, bxD S b2]) = .ok (.lst ((B.take i).map (bxD S) ++ [bxD S b1, bxD S b2])) := addL_ok (by rw [List.length_map, lt, List.length_cons, List.length_cons, List.length_nil]; omega)
        have a2 : addD (.lst ((B.take i).map (bxD S) ++ [bxD S b1, bxD S b2])) (.lst ((B.drop (i + 1)).map (bxD S))) = .ok (.lst ((B.take i ++ ([b1, b2] ++ B.drop (i + 1))).map (bxD S))) := by
          rw [addL_ok (by rw [List.length_append, List.length_map, List.length_map, lt, ld, List.length_cons, List.length_cons, List.length_nil]; omega)]
          exact congrArg (fun z => Res.ok (D.lst z)) (by rw [List.map_append, List.map_append, List.append_assoc]; rfl)
        refine ⟨_, _, rfl, split_raw1 _ _ _ _ _ _ _ _ _ _ _ _ _ _ _ _ _ _ _ _ _ _ _ _ _ _ _ _ _ _ (by rw [lB]) e1 e2' e3 e4 c e5 rfl s1 s2 t1 t2 a1 a2, _, d3, _, _, _, _, _, _, _, _, _, rfl, p3, hP, ?_⟩
        rw [List.length_append, List.length_append, lt, ld, List.length_cons, List.length_cons, List.length_nil]
        omega
      · exact ⟨_, _, rfl, split_raw2 _ _ _ _ _ _ _ _ _ _ _ _ _ _ _ _ _ _ _ _ _ _ (by rw [lB]) e1 e2' e3 e4 c, B, d2, _, _, _, _, _, _, _, _, _, rfl, p2, hB, by omega⟩
  subst q2
  exact ⟨B, d', split_raw _ _ _ (.non) _ _ _ _ _ _ _ _ _ _ _ _ _ _ _ hbox' r1 q1, q3, q4, by omega⟩
end DL.G
namespace DL.G
open PySem PySem.Spec L2
set_option autoImplicit false
/-! ### the price lists -/
structure En where
  ks : List Str
  bx : Bo
  base : Rat
  rs : List Str
  r : Str → Rat
def riD (rs : List Str) (r : Str → Rat) : D := dS rs fun n => frD (r n)
def shD (ks : List Str) (b : Bo) : D := dS ks fun n => rgD (b.lo n) (b.hi n)
def entD (e : En) : D := .tup [shD e.ks e.bx, frD e.base, riD e.rs e.r]
structure EnOk (S : List Str) (T : Str → Int) (e : En) : Prop where
  ks : e.ks.Sublist S
  wh : ∀ n ∈ S, n ∉ e.ks → e.bx.lo n = 0 ∧ e.bx.hi n = T n
  rs : e.rs.Sublist S
  r0 : ∀ n, n ∉ e.rs → e.r n = 0
  rS : ∀ n, Sx 72 (e.r n)
  bS : Sx 200 e.base
theorem Part.perm {S : List Str} {T : Str → Int} {B C : List Bo} (h : Part S T B) (p : C.Perm B) : Part S T C := ⟨fun b hb => h.ok b (p.mem_iff.mp hb), fun x hx => by rw [p.countP_eq]; exact h.one x hx⟩
theorem frD_neg (q : Rat) : D.tup [.int (-q.num), .int (q.den : Int)] = frD (-q) := by
  unfold frD
  rw [Rat.neg_num, Rat.neg_den]
theorem signed_raw (d0 d1 d2 d3 : D) (v p w a b : Int) (c : D) (e1 : m_f_law_draw [d0, .int 13] = .ok (.int v, [d1, .int 13])) (e2 : m_f_law_pick [d1, .lst [.int 1, .int 1, .int 2, .int 3]] = .ok (.int p, [d2, .lst [.int 1, .int 1, .int 2, .int 3]])) (e3 : rv (m_f_law_ratio [.int v, .int p]) = .ok (.tup [.int a, .int b]))
    (e4 : m_f_law_draw [d2, .int 2] = .ok (.int w, [d3, .int 2])) (hc : c = if w = 0 then .tup [.int a, .int b] else .tup [.int (-a), .int b]) : m_f_law_signed [d0] = .ok (c, [d3]) := by
  unfold m_f_law_signed fnM b_f_law_signed
  by_cases h : w = 0
  · rw [if_pos h] at hc
    simp [e1, e2, e3, e4, h, fin, hc]
  · rw [if_neg h] at hc
    simp [e1, e2, e3, e4, h, fin, hc]
theorem signed_ok {ns : List Int} {d : D} (h : PoolOk ns d) : ∃ (q : Rat) (d' : D), m_f_law_signed [d] = .ok (frD q, [d']) ∧ PoolOk ns d' ∧ Sx 72 q := by
  obtain ⟨v, d1, e1, p1, v1, v2⟩ := draw_ok (L := 13) h (by decide) (by decide)
  obtain ⟨x, d2, e2, p2, hx⟩ := pick_ok (xs := [.int 1, .int 1, .int 2, .int 3]) p1 (by decide) (by decide)
  obtain ⟨p, rfl, hp, hd⟩ : ∃ p : Int, x = .int p ∧ (p = 1 ∨ p = 2 ∨ p = 3) ∧ p ∣ 6 := by
    simp only [List.mem_cons, List.not_mem_nil, or_false] at hx
    rcases hx with rfl | rfl | rfl | rfl
    · exact ⟨1, rfl, .inl rfl, by decide⟩
    · exact ⟨1, rfl, .inl rfl, by decide⟩
    · exact ⟨2, rfl, .inr (.inl rfl), by decide⟩
    · exact ⟨3, rfl, .inr (.inr rfl), by decide⟩
  obtain ⟨w, d3, e4, p3, w1, w2⟩ := draw_ok (L := 2) p2 (by decide) (by decide)
  have e3 := lratio_ok (p := v) (q := p) (by omega) (by omega)
  have hq : Sx 72 (Rat.divInt v p) := Sx.frac (N := 12) (by omega) hd (by omega)
  generalize Rat.divInt v p = q at e3 hq
  by_cases c : w = 0
  · exact ⟨q, d3, signed_raw _ _ _ _ _ _ _ _ _ _ e1 e2 e3 e4 (by rw [if_pos c]; rfl), p3, hq⟩
  · exact ⟨-q, d3, signed_raw _ _ _ _ _ _ _ _ _ _ e1 e2 e3 e4 (by rw [if_neg c]; exact (frD_neg q).symm), p3, hq.neg⟩
theorem sub_snoc {α : Type} {K L : List α} {x : α} (h : K.Sublist L) : (K ++ [x]).Sublist (L ++ [x]) := List.Sublist.append h (List.Sublist.refl _)
theorem sub_skip {α : Type} {K L : List α} {x : α} (h : K.Sublist L) : K.Sublist (L ++ [x]) := h.trans (List.sublist_append_left _ _)
theorem take_succ' {α : Type} {l : List α} {k : Nat} {x : α} (h : l[k]? = some x) : l.take (k + 1) = l.take k ++ [x] := by
  rw [List.take_add_one, h]; rfl
/-! a box, with whole ranges left out now and then -/
theorem short_turn (d0 d1 d2 SP BX nm FO FO' : D) (a b t w : Int) (j4 j5 : Option D) (e1 : ixD BX nm = .ok (rgD a b))
    (e2 : m_f_law_draw [d0, .int 2] = .ok (.int w, [d1, .int 2])) (e3 : setD1 FO nm (rgD a b) = .ok FO') : ∃ (d2 FO2 : D), l_f_law_short_1 [some d0, some SP, some BX, some FO, some nm, some (.int t)] = .ok (.nx, [some d2, some SP, some BX, some FO2, some nm, some (.int t)]) ∧ (d2 = d0 ∨ d2 = d1) ∧ (FO2 = FO' ∨ (FO2 = FO ∧ a = 0 ∧ b = t)) := by
  unfold l_f_law_short_1 rgD at *
  by_cases c : a = 0 ∧ b = t
  · obtain ⟨rfl, rfl⟩ := c
    by_cases h : w = 0
    · exact ⟨d1, FO', by simp [e1, e2, e3, h], .inr rfl, .inl rfl⟩
    · exact ⟨d1, FO, by simp [e1, e2, e3, h], .inr rfl, .inr ⟨rfl, rfl, rfl⟩⟩
  · refine ⟨d0, FO', ?_, .inl rfl, .inl rfl⟩
    have c' : (decide (a = 0) && decide (b = t)) = false := by
      rw [Bool.eq_false_iff]
      intro z
      simp at z
      exact c z
    simp only [ap_sif, ap_or, ap_e2, ap_var, ap_ret, List.getElem?_cons_succ, List.getElem?_cons_zero, ap_eL, ap_cons, ap_nil, gTup2, ap_liftOk, e1, neD_pair, c', Bool.not_false, if_true, ap_seq, ap_put, e3, ap_snil, List.set_cons_succ, List.set_cons_zero]
theorem short_raw (d0 d1 SP BX FO : D) (j4 j5 : Option D) (h : forA 1 (gTupT 2 (gsCons (gSet 4) (gsCons (gSet 5) gsNil))) l_f_law_short_1 [some d0, some SP, some BX, some (.dic false []), none, none] = .ok (.nx, [some d1, some SP, some BX, some FO, j4, j5])) : m_f_law_short [d0, SP, BX] = .ok (FO, [d1, SP, BX]) := by
  unfold m_f_law_short fnM b_f_law_short
  simp [-ap_forA, h, fin]
theorem short_ok {ns : List Int} {d : D} {S : List Str} {T : Str → Int} {b : Bo} (h : PoolOk ns d) (hS : Names S) : ∃ (K : List Str) (d' : D), m_f_law_short [d, spD S T, bxD S b] = .ok (shD K b, [d', spD S T, bxD S b]) ∧ PoolOk ns d' ∧ K.Sublist S ∧ ∀ n ∈ S, n ∉ K → b.lo n = 0 ∧ b.hi n = T n := by
  obtain ⟨ρ', q1, K, d1, j4, j5, q2, q3, q4, q5⟩ := forM_map_inv (t := gTupT 2 (gsCons (gSet 4) (gsCons (gSet 5) gsNil))) (b := l_f_law_short_1) (tupS fun n => .int (T n)) (fun k ρ => ∃ (K : List Str) (d' : D) (j4 j5 : Option D), ρ = [some d', some (spD S T), some (bxD S b), some (shD K b), j4, j5] ∧ PoolOk ns d' ∧ K.Sublist (S.take k) ∧ ∀ n ∈ S.take k, n ∉ K → b.lo n = 0 ∧ b.hi n = T n) S
    [some d, some (spD S T), some (bxD S b), some (.dic false []), none, none] ⟨[], d, none, none, rfl, h, by simp, by simp⟩ fun k n ρ hk ⟨K, d', j4, j5, e, p, hK, hw⟩ => by
      subst e
      have hn : n ∈ S := List.mem_of_getElem? hk
      obtain ⟨w, d2, e2, p2, _, _⟩ := draw_ok (L := 2) p (by decide) (by decide)
      have nk : n ∉ K := fun z => by
        have h1 := hK.subset z
        have nd := hS.nd
        rw [← List.take_append_drop (k + 1) S, take_succ' hk] at nd
        have := (List.nodup_append.mp (List.nodup_append.mp nd).1).2.2 n h1 n (by simp)
        exact this rfl
      have e3 : setD1 (shD K b) (.str n) (rgD (b.lo n) (b.hi n)) = .ok (shD (K ++ [n]) b) := by
        unfold shD
        have := hK.length_le
        have := hS.l3
        rw [set_dS (by rw [List.length_take] at *; omega), if_neg nk]
        refine congrArg Res.ok (dS_congr fun m _ => ?_)
        by_cases e : m = n
        · subst e; rw [if_pos rfl]
        · rw [if_neg e]
      obtain ⟨d3, FO2, q1, q2, q3⟩ := short_turn d' d2 d' (spD S T) (bxD S b) (.str n) (shD K b) _ (b.lo n) (b.hi n) (T n) w j4 j5 (ix_dS hn) e2 e3
      have p3 : PoolOk ns d3 := by rcases q2 with rfl | rfl <;> assumption
      refine ⟨_, _, rfl, q1, ?_⟩
      rcases q3 with rfl | ⟨rfl, h1, h2⟩
      · refine ⟨K ++ [n], d3, _, _, rfl, p3, by rw [take_succ' hk]; exact sub_snoc hK, fun m hm hmk => ?_⟩
        rw [take_succ' hk] at hm
        rcases List.mem_append.mp hm with hm | hm
        · exact hw m hm fun z => hmk (List.mem_append_left _ z)
        · exact absurd (List.mem_append_right _ hm) hmk
      · refine ⟨K, d3, _, _, rfl, p3, by rw [take_succ' hk]; exact sub_skip hK, fun m hm hmk => ?_⟩
        rw [take_succ' hk] at hm
        rcases List.mem_append.mp hm with hm | hm
        · exact hw m hm hmk
        · cases List.mem_singleton.mp hm
          exact ⟨h1, h2⟩
  subst q2
  rw [List.take_length] at q4 q5
  exact ⟨K, d1, short_raw _ _ _ _ _ _ _ ((forA_lst (ds := S.map (tupS fun n => .int (T n))) rfl).trans q1), q3, q4, q5⟩
/-! rises -/
theorem rise_turn (d0 d1 d2 SP MN nm RI RI' fo bx : D) (c w : Int) (Q : D) (j7 : Option D) (e1 : m_f_law_draw [d0, .int 3] = .ok (.int w, [d1, .int 3])) (e2 : 0 < w → m_f_law_signed [d1] = .ok (Q, [d2])) (e3 : 0 < w → setD1 RI nm Q = .ok RI') :
    l_f_law_entries_1 [some d0, some SP, some MN, some fo, some bx, some RI, some nm, j7] = .ok (.nx, [some (if 0 < w then d2 else d1), some SP, some MN, some fo, some bx, some (if 0 < w then RI' else RI), some nm, j7]) := by
  unfold l_f_law_entries_1
  by_cases h : 0 < w
  · simp [e1, h, e2 h, e3 h]
  · simp [e1, h]
theorem rises_ok {ns : List Int} {d : D} {S : List Str} {T : Str → Int} {MN fo bx : D} {j6 j7 : Option D} (h : PoolOk ns d) (hS : Names S) : ∃ (R : List Str) (r : Str → Rat) (d' : D) (i6 i7 : Option D), forA 1 (gTupT 2 (gsCons (gSet 6) (gsCons (gSet 7) gsNil))) l_f_law_entries_1 [some d, some (spD S T), some MN, some fo, some bx, some (.dic false []), j6, j7] = .ok (.nx, [some d', some (spD S T), some MN, some fo, some bx, some (riD R r), i6, i7]) ∧ PoolOk ns d' ∧ R.Sublist S ∧ (∀ n, n ∉ R → r n = 0) ∧ ∀ n, Sx 72 (r n) := by
  obtain ⟨ρ', q1, R, r, d1, i6, i7, q2, q3, q4, q5, q6⟩ := forM_map_inv (t := gTupT 2 (gsCons (gSet 6) (gsCons (gSet 7) gsNil))) (b := l_f_law_entries_1) (tupS fun n => .int (T n)) (fun k ρ => ∃ (R : List Str) (r : Str → Rat) (d' : D) (i6 i7 : Option D), ρ = [some d', some (spD S T), some MN, some fo, some bx, some (riD R r), i6, i7] ∧ PoolOk ns d' ∧ R.Sublist (S.take k) ∧ (∀ n, n ∉ R → r n = 0) ∧ ∀ n, Sx 72 (r n)) S
    [some d, some (spD S T), some MN, some fo, some bx, some (.dic false []), j6, j7] ⟨[], fun _ => 0, d, j6, j7, rfl, h, by simp, fun _ _ => rfl, fun _ => Sx.zero⟩ fun k n ρ hk ⟨R, r, d', i6, i7, e, p, hR, h0, hs⟩ => by
      subst e
      have hn : n ∈ S := List.mem_of_getElem? hk
      obtain ⟨w, d2, e2, p2, _, _⟩ := draw_ok (L := 3) p (by decide) (by decide)
      obtain ⟨q, d3, e3, p3, hq⟩ := signed_ok p2
      have nk : n ∉ R := fun z => by
        have h1 := hR.subset z
        have nd := hS.nd
        rw [← List.take_append_drop (k + 1) S, take_succ' hk] at nd
        have := (List.nodup_append.mp (List.nodup_append.mp nd).1).2.2 n h1 n (by simp)
        exact this rfl
      have e4 : setD1 (riD R r) (.str n) (frD q) = .ok (riD (R ++ [n]) (fun m => if m = n then q else r m)) := by
        unfold riD
        have := hR.length_le
        have := hS.l3
        rw [set_dS (by rw [List.length_take] at *; omega), if_neg nk]
        refine congrArg Res.ok (dS_congr fun m _ => ?_)
        by_cases e : m = n
        · subst e; dsimp only; rw [if_pos rfl, if_pos rfl]
        · dsimp only; rw [if_neg e, if_neg e]
      refine ⟨_, _, rfl, rise_turn d' d2 d3 _ _ _ _ _ _ _ 0 w _ _ e2 (fun _ => e3) (fun _ => e4), ?_⟩
      by_cases c : 0 < w
      · rw [if_pos c, if_pos c]
        refine ⟨R ++ [n], fun m => if m = n then q else r m, d3, _, _, rfl, p3, by rw [take_succ' hk]; exact sub_snoc hR, fun m hm => ?_, fun m => ?_⟩
        · have : ¬ m = n := fun z => hm (by rw [z]; simp)
          dsimp only
          rw [if_neg this]
          exact h0 m fun z => hm (List.mem_append_left _ z)
        · dsimp only
          by_cases e : m = n
          · rw [if_pos e]; exact hq
          · rw [if_neg e]; exact hs m
      · rw [if_neg c, if_neg c]
        exact ⟨R, r, d2, _, _, rfl, p2, by rw [take_succ' hk]; exact sub_skip hR, h0, hs⟩
  subst q2
  rw [List.take_length] at q4
  exact ⟨R, r, d1, i6, i7, (forA_lst (ds := S.map (tupS fun n => .int (T n))) rfl).trans q1, q3, q4, q5, q6⟩
theorem entry_turn (d0 d1 d2 d3 d4 SP MN BX RI SH Q c : D) (v : Int) (fo fo' : List D) (j5 j6 j7 i6 i7 : Option D) (e1 : forA 1 (gTupT 2 (gsCons (gSet 6) (gsCons (gSet 7) gsNil))) l_f_law_entries_1 [some d0, some SP, some MN, some (.lst fo), some BX, some (.dic false []), j6, j7] = .ok (.nx, [some d1, some SP, some MN, some (.lst fo), some BX, some RI, i6, i7]))
    (e2 : m_f_law_short [d1, SP, BX] = .ok (SH, [d2, SP, BX])) (e3 : m_f_law_signed [d2] = .ok (Q, [d3])) (e4 : m_f_law_draw [d3, .int 20] = .ok (.int v, [d4, .int 20])) (e5 : rv (m_f_law_add [Q, .tup [.int v, .int 1]]) = .ok c) (e6 : appendD fo (.tup [SH, c, RI]) = .ok (fo', .non)) :
    l_f_law_entries_2 [some d0, some SP, some MN, some (.lst fo), some BX, j5, j6, j7] = .ok (.nx, [some d4, some SP, some MN, some (.lst fo'), some BX, some RI, i6, i7]) := by
  unfold l_f_law_entries_2
  simp [-ap_forA, e1, e2, e3, e4, e5, e6]
theorem entries_raw (d0 d1 d2 d3 SP MN r : D) (BM fo : List D) (j4 j5 j6 j7 : Option D) (e1 : m_f_law_split [d0, SP, MN] = .ok (.lst BM, [d1, SP, MN])) (e2 : forM (gSet 4) l_f_law_entries_2 BM [some d1, some SP, some MN, some (.lst []), none, none, none, none] = .ok (.nx, [some d2, some SP, some MN, some (.lst fo), j4, j5, j6, j7]))
    (e3 : m_f_law_turned [d2, .lst fo] = .ok (r, [d3, .lst fo])) : m_f_law_entries [d0, SP, MN] = .ok (r, [d3, SP, MN]) := by
  unfold m_f_law_entries fnM b_f_law_entries
  simp [e1, e2, e3, fin]
theorem entries_ok {ns : List Int} {d : D} {S : List Str} {T : Str → Int} (h : PoolOk ns d) (hS : Names S) (hT : ∀ n ∈ S, 0 ≤ T n ∧ T n < 2 ^ 40) {many : Nat} (hm : many < 100) : ∃ (E : List En) (d' : D), m_f_law_entries [d, spD S T, .int (many : Int)] = .ok (.lst (E.map entD), [d', spD S T, .int (many : Int)]) ∧ PoolOk ns d' ∧ (∀ e ∈ E, EnOk S T e) ∧ Part S T (E.map En.bx) ∧ E.length ≤ 1 + many := by
  obtain ⟨B, d1, e1, p1, hB, hl⟩ := split_ok h hS hT hm
  obtain ⟨ρ', q1, E, d2, j4, j5, j6, j7, q2, q3, q4, q5⟩ := forM_map_inv (t := gSet 4) (b := l_f_law_entries_2) (bxD S) (fun k ρ => ∃ (E : List En) (d' : D) (j4 j5 j6 j7 : Option D), ρ = [some d', some (spD S T), some (.int (many : Int)), some (.lst (E.map entD)), j4, j5, j6, j7] ∧ PoolOk ns d' ∧ (∀ e ∈ E, EnOk S T e) ∧ E.map En.bx = B.take k) B
    [some d1, some (spD S T), some (.int (many : Int)), some (.lst []), none, none, none, none] ⟨[], d1, none, none, none, none, rfl, p1, by simp, by simp⟩ fun k b ρ hk ⟨E, d', j4, j5, j6, j7, e, p, hE, hb⟩ => by
      subst e
      obtain ⟨R, r, d2, i6, i7, a1, a2, a3, a4, a5⟩ := rises_ok (S := S) (T := T) (MN := .int (many : Int)) (fo := .lst (E.map entD)) (bx := bxD S b) (j6 := j6) (j7 := j7) p hS
      obtain ⟨K, d3, b1, b2, b3, b4⟩ := short_ok (T := T) (b := b) a2 hS
      obtain ⟨q, d4, c1, c2, c3⟩ := signed_ok b2
      obtain ⟨v, d5, f1, f2, f3, f4⟩ := draw_ok (L := 20) c2 (by decide) (by decide)
      have g1 : rv (m_f_law_add [frD q, .tup [.int v, .int 1]]) = .ok (frD (q + (v : Rat))) := by
        rw [int_fr]
        exact laddS c3 (Sx.int (N := 20) (by omega)) (by decide) (by decide)
      have lE : E.length = k := by
        have := congrArg List.length hb
        have hk' := (List.getElem?_eq_some_iff.mp hk).1
        rw [List.length_map, List.length_take] at this
        omega
      have g2 : appendD (E.map entD) (.tup [shD K b, frD (q + (v : Rat)), riD R r]) = .ok ((E ++ [En.mk K b (q + (v : Rat)) R r]).map entD, .non) := by
        have hk' := (List.getElem?_eq_some_iff.mp hk).1
        rw [appendD_lt (by rw [List.length_map]; omega), List.map_append]
        rfl
      refine ⟨_, _, rfl, entry_turn _ _ _ _ _ _ _ _ _ _ _ _ _ _ _ _ _ _ _ _ a1 b1 c1 f1 g1 g2, E ++ [⟨K, b, q + (v : Rat), R, r⟩], d5, _, _, _, _, rfl, f2, fun e he => ?_, by rw [List.map_append, hb, take_succ' hk]; rfl⟩
      rcases List.mem_append.mp he with he | he
      · exact hE e he
      · cases List.mem_singleton.mp he
        exact ⟨b3, b4, a3, a4, a5, (c3.add (Sx.int (N := 20) (n := v) (by omega))).mono (by decide)⟩
  subst q2
  rw [List.take_length] at q5
  have lE : E.length = B.length := by rw [← q5, List.length_map]
  obtain ⟨k, d3, e3, p3⟩ := turned_ok (xs := E.map entD) q3 (by rw [List.length_map]; omega)
  have pE : (E.drop k ++ E.take k).Perm E := (List.perm_append_comm).trans (by rw [List.take_append_drop])
  refine ⟨E.drop k ++ E.take k, d3, ?_, p3, fun e he => q4 e (pE.mem_iff.mp he), ?_, by rw [pE.length_eq]; omega⟩
  · rw [List.map_append, List.map_drop, List.map_take]
    exact entries_raw _ _ _ _ _ _ _ _ _ _ _ _ _ e1 q1 e3
  · exact hB.perm (by rw [← q5]; exact pE.map _)
end DL.G
namespace DL.G
open PySem PySem.Spec L2
set_option autoImplicit false
/-! ### _law_same of what is the same -/
theorem same_int (n : Nat) (i : Int) : rv (m_f_law_same (n + 1) [(.int i), (.int i)]) = .ok (.bl true) := by
    rw [m_f_law_same, rv_fn]; unfold b_f_law_same
    simp [isC]
theorem same_bl (n : Nat) (b : Bool) : rv (m_f_law_same (n + 1) [(.bl b), (.bl b)]) = .ok (.bl true) := by
    rw [m_f_law_same, rv_fn]; unfold b_f_law_same
    cases b <;> simp [isC]
theorem same_non (n : Nat)  : rv (m_f_law_same (n + 1) [.non, .non]) = .ok (.bl true) := by
    rw [m_f_law_same, rv_fn]; unfold b_f_law_same
    simp [isC]
theorem same_loop {n : Nat} {a b : D} {m : Nat} (hk : ∀ k : Nat, k < m → ∃ x y, ixD a (.int (k : Int)) = .ok x ∧ ixD b (.int (k : Int)) = .ok y ∧ rv (m_f_law_same n [x, y]) = .ok (.bl true)) (j2 j3 : Option D) : ∃ j3', forM (gSet 3) (l_f_law_same_2 (m_f_law_same n)) (rngL 0 (m : Int)) [some a, some b, j2, j3] = .ok (.nx, [some a, some b, j2, j3']) := by
  obtain ⟨ρ', q1, j3', q2⟩ := for_rng (t := gSet 3) (b := l_f_law_same_2 (m_f_law_same n)) 0 (m : Int) (fun k ρ => ∃ j3, ρ = [some a, some b, j2, j3]) [some a, some b, j2, j3] ⟨j3, rfl⟩ fun k ρ hkm ⟨j3, e⟩ => by
    subst e
    obtain ⟨x, y, h1, h2, h3⟩ := hk k (by omega)
    obtain ⟨z, hz⟩ : ∃ z : Int, (k : Int) = z := ⟨_, rfl⟩
    rw [Int.zero_add, hz]
    rw [hz] at h1 h2
    refine ⟨_, _, rfl, ?_, some (.int z), rfl⟩
    unfold l_f_law_same_2
    simp [h1, h2, h3]
  exact ⟨j3', by rw [q1, q2]⟩
theorem same_seq_raw (n : Nat) (A B : D) (L : Int) (rg : List D) (p q : Bool) (j : Option D) (hA : lenD A = .ok (.int L)) (hB : lenD B = .ok (.int L)) (hr : rng1D (.int L) = .ok rg) (hj : forM (gSet 3) (l_f_law_same_2 (m_f_law_same n)) rg [some A, some B, none, none] = .ok (.nx, [some A, some B, none, j]))
    (t1 : isiD "tuple" A = .ok (.bl p)) (t2 : isiD "tuple" B = .ok (.bl p)) (t3 : isiD "list" A = .ok (.bl q)) (t4 : isiD "list" B = .ok (.bl q)) (t5 : isiD "int" B = .ok (.bl false)) (t6 : isiD "str" B = .ok (.bl false)) (t7 : isiD "dict" B = .ok (.bl false)) (n1 : isC B .non = .ok false) (n2 : ∀ b, isC B (.bl b) = .ok false) : rv (m_f_law_same (n + 1) [A, B]) = .ok (.bl true) := by
  rw [m_f_law_same, rv_fn]; unfold b_f_law_same
  simp [hA, hB, hr, hj, t1, t2, t3, t4, t5, t6, t7, n1, n2]
theorem same_tup {n : Nat} {xs ys : List D} (hl : xs.length = ys.length) (h1 : ys.length ≤ 1000) (h : ∀ (k : Nat) (x y : D), xs[k]? = some x → ys[k]? = some y → rv (m_f_law_same n [x, y]) = .ok (.bl true)) : rv (m_f_law_same (n + 1) [.tup xs, .tup ys]) = .ok (.bl true) := by
  obtain ⟨j, hj⟩ := same_loop (n := n) (a := .tup xs) (b := .tup ys) (m := ys.length) (fun k hk => ⟨xs[k], ys[k], ixT_k (List.getElem?_eq_getElem (by omega)), ixT_k (List.getElem?_eq_getElem hk), h k _ _ (List.getElem?_eq_getElem (by omega)) (List.getElem?_eq_getElem hk)⟩) none none
  exact same_seq_raw n _ _ _ _ true false j (by rw [lenD_tup, hl]) (lenD_tup ys) (rng1_ok (by omega)) hj (isi_tup_tuple _) (isi_tup_tuple _) (isi_tup_list _) (isi_tup_list _) (isi_tup_int _) (isi_tup_str _) (isi_tup_dict _) rfl (fun _ => rfl)
theorem same_lst {n : Nat} {xs ys : List D} (hl : xs.length = ys.length) (h1 : ys.length ≤ 1000) (h : ∀ (k : Nat) (x y : D), xs[k]? = some x → ys[k]? = some y → rv (m_f_law_same n [x, y]) = .ok (.bl true)) : rv (m_f_law_same (n + 1) [.lst xs, .lst ys]) = .ok (.bl true) := by
  obtain ⟨j, hj⟩ := same_loop (n := n) (a := .lst xs) (b := .lst ys) (m := ys.length) (fun k hk => ⟨xs[k], ys[k], ixL_k (List.getElem?_eq_getElem (by omega)), ixL_k (List.getElem?_eq_getElem hk), h k _ _ (List.getElem?_eq_getElem (by omega)) (List.getElem?_eq_getElem hk)⟩) none none
  exact same_seq_raw n _ _ _ _ false true j (by rw [lenD_lst, hl]) (lenD_lst ys) (rng1_ok (by omega)) hj (isi_lst_tuple _) (isi_lst_tuple _) (isi_lst_list _) (isi_lst_list _) (isi_lst_int _) (isi_lst_str _) (isi_lst_dict _) rfl (fun _ => rfl)
theorem same_pair {n : Nat} {a b c d : D} (h1 : rv (m_f_law_same n [a, c]) = .ok (.bl true)) (h2 : rv (m_f_law_same n [b, d]) = .ok (.bl true)) : rv (m_f_law_same (n + 1) [.tup [a, b], .tup [c, d]]) = .ok (.bl true) := by
  refine same_tup rfl (by simp) fun k x y hx hy => ?_
  match k with
  | 0 => cases hx; cases hy; exact h1
  | 1 => cases hx; cases hy; exact h2
  | k + 2 => simp at hx
theorem same_dS {n : Nat} {ks ls : List Str} {f g : Str → D} (hl : ks.length = ls.length) (h : ∀ k ∈ ls, k ∈ ks ∧ rv (m_f_law_same n [f k, g k]) = .ok (.bl true)) : rv (m_f_law_same (n + 1) [dS ks f, dS ls g]) = .ok (.bl true) := by
  obtain ⟨ρ', q1, j2, q2⟩ := forM_map_inv (t := gSet 2) (b := l_f_law_same_1 (m_f_law_same n)) D.str (fun k ρ => ∃ j2, ρ = [some (dS ks f), some (dS ls g), j2, none]) ls [some (dS ks f), some (dS ls g), none, none] ⟨none, rfl⟩ fun k q ρ hk ⟨j2, e⟩ => by
    subst e
    have hq : q ∈ ls := List.mem_of_getElem? hk
    obtain ⟨h1, h2⟩ := h q hq
    have i0 : notInD (.str q) (dS ks f) = .ok false := by rw [notin_dS]; simp [h1]
    have i1 := ix_dS (f := f) h1
    have i2 := ix_dS (f := g) hq
    refine ⟨_, _, rfl, ?_, some (.str q), rfl⟩
    unfold l_f_law_same_1
    generalize dS ks f = A at *
    generalize dS ls g = B at *
    simp [i0, i1, i2, h2]
  have q3 : forA 1 (gSet 2) (l_f_law_same_1 (m_f_law_same n)) [some (dS ks f), some (dS ls g), none, none] = .ok (.nx, [some (dS ks f), some (dS ls g), j2, none]) := forA_dS (ks := ls) (f := g) rfl (by rw [q1, q2])
  have l1 := len_dS ks f
  have l2 := len_dS ls g
  have d1 := isi_dS_dict ks f
  have d2 := isi_dS_dict ls g
  have n1 : isC (dS ls g) .non = .ok false := rfl
  have n2 : ∀ b, isC (dS ls g) (.bl b) = .ok false := fun _ => rfl
  have n3 : isiD "int" (dS ls g) = .ok (.bl false) := isi_dic_int _ _
  have n4 : isiD "str" (dS ls g) = .ok (.bl false) := isi_dic_str _ _
  rw [hl] at l1
  rw [m_f_law_same, rv_fn]; unfold b_f_law_same
  generalize dS ks f = A at *
  generalize dS ls g = B at *
  generalize (ls.length : Int) = L at *
  simp [-ap_forA, q3, l1, l2, d1, d2, n1, n2, n3, n4]
end DL.G
namespace DL.G
open PySem PySem.Spec L2
set_option autoImplicit false
/-! ### the law's prices -/
def bkD (ks : List Str) (x : Str → Int) : D := dS ks fun n => .int (x n)
def rsum (l : List Rat) : Rat := l.foldr (· + ·) 0
theorem rsum_app (l m : List Rat) : rsum (l ++ m) = rsum l + rsum m := by
  induction l with
  | nil => show rsum m = 0 + rsum m; grind
  | cons a l ih =>
    show a + rsum (l ++ m) = (a + rsum l) + rsum m
    rw [ih]; grind
def En.val (e : En) (x : Str → Int) : Rat := e.base + rsum (e.rs.map fun n => e.r n * (x n : Rat))
theorem inbox_raw (A B : D) (L : List D) (k : Int) (h : eCompA [2] 0 (gSet 2) (eNot (eChain (α := Unit) (cmpD fun i j => decide (i ≤ j)) (cmpD fun i j => decide (i ≤ j)) (e2 ixD (e2 ixD (eVar 0) (eVar 2)) (eRet (.int 0))) (e2 ixD (eVar 1) (eVar 2)) (e2 ixD (e2 ixD (eVar 0) (eVar 2)) (eRet (.int 1))))) (eVar 2) [some A, some B, none] = .ok (.lst L, [some A, some B, none])) (hk : (L.length : Int) = k) : rv (m_f_law_in_box [A, B]) = .ok (.bl (decide (k = 0))) := by
  unfold m_f_law_in_box
  rw [rv_fn]
  unfold b_f_law_in_box
  simp [-ap_compA, h, hk]
theorem inbox_turn (A B q : D) (l x u : Int) (h1 : ixD A q = .ok (rgD l u)) (h2 : ixD B q = .ok (.int x)) : eNot (eChain (α := Unit) (cmpD fun i j => decide (i ≤ j)) (cmpD fun i j => decide (i ≤ j)) (e2 ixD (e2 ixD (eVar 0) (eVar 2)) (eRet (.int 0))) (e2 ixD (eVar 1) (eVar 2)) (e2 ixD (e2 ixD (eVar 0) (eVar 2)) (eRet (.int 1)))) [some A, some B, some q] = .ok (!(decide (l ≤ x) && decide (x ≤ u)), [some A, some B, some q]) := by
  unfold rgD at h1
  by_cases c : l ≤ x <;> simp [h1, h2, c]
theorem inbox_ok {K ks : List Str} {b : Bo} {x : Str → Int} (h : ∀ n ∈ K, n ∈ ks) (hl : K.length < 1000) : rv (m_f_law_in_box [shD K b, bkD ks x]) = .ok (.bl (K.all fun n => decide (b.lo n ≤ x n) && decide (x n ≤ b.hi n))) := by
  have hc := compM_of (vs := [2]) (t := gSet 2) (c := eNot (eChain (α := Unit) (cmpD fun i j => decide (i ≤ j)) (cmpD fun i j => decide (i ≤ j)) (e2 ixD (e2 ixD (eVar 0) (eVar 2)) (eRet (.int 0))) (e2 ixD (eVar 1) (eVar 2)) (e2 ixD (e2 ixD (eVar 0) (eVar 2)) (eRet (.int 1))))) (e := eVar 2) (ρ0 := [some (shD K b), some (bkD ks x), none]) D.str (fun n => !(decide (b.lo n ≤ x n) && decide (x n ≤ b.hi n))) D.str K []
    (fun n hn => ⟨_, rfl, inbox_turn _ _ _ _ _ _ (ix_dS hn) (ix_dS (h n hn)), fun _ => rfl, rfl⟩) (by simp; omega)
  have h1 := inbox_raw (shD K b) (bkD ks x) (([] : List D) ++ (K.filter fun n => !(decide (b.lo n ≤ x n) && decide (x n ≤ b.hi n))).map D.str) _ ((compA_dS (ks := K) (f := fun n => rgD (b.lo n) (b.hi n)) rfl).trans (by
    rw [show wipeE [some (shD K b), some (bkD ks x), none] [2] = [some (shD K b), some (bkD ks x), none] from rfl, hc]
    rfl)) rfl
  rw [h1]
  congr 2
  rw [List.nil_append, List.length_map, Bool.eq_iff_iff, decide_eq_true_eq, List.all_eq_true]
  constructor
  · intro z n hn
    have z' : (K.filter fun n => !(decide (b.lo n ≤ x n) && decide (x n ≤ b.hi n))) = [] := List.eq_nil_of_length_eq_zero (by omega)
    have := List.filter_eq_nil_iff.mp z' n hn
    cases q : (decide (b.lo n ≤ x n) && decide (x n ≤ b.hi n)) with
    | true => rfl
    | false => rw [q] at this; exact absurd rfl this
  · intro z
    have z' : (K.filter fun n => !(decide (b.lo n ≤ x n) && decide (x n ≤ b.hi n))) = [] := List.filter_eq_nil_iff.mpr fun n hn => by rw [z n hn]; decide
    rw [z']; rfl
theorem all_in {S : List Str} {T : Str → Int} {e : En} (h : EnOk S T e) {x : Str → Int} (hx : InSp S T x) : (e.ks.all fun n => decide (e.bx.lo n ≤ x n) && decide (x n ≤ e.bx.hi n)) = inB S x e.bx := by
  rw [Bool.eq_iff_iff, inB_iff, List.all_eq_true]
  constructor
  · intro z n hn
    by_cases hk : n ∈ e.ks
    · have := z n hk
      simpa using this
    · obtain ⟨h1, h2⟩ := h.wh n hn hk
      have := hx n hn
      rw [h1, h2]; exact this
  · intro z n hn
    have := z n (h.ks.subset hn)
    simpa using this
theorem price_step (A B C Dd E R n c c' m : D) (x : Int) (h1 : ixD R n = .ok m) (h2 : ixD B n = .ok (.int x)) (h3 : rv (m_f_law_mul [m, .tup [.int x, .int 1]]) = .ok c') {a r : D} (h4 : rv (m_f_law_add [a, c']) = .ok r) : l_f_law_price_1 [some A, some B, some C, some Dd, some R, some a, some n] = .ok (.nx, [some A, some B, some C, some Dd, some R, some r, some n]) := by
  unfold l_f_law_price_1
  simp [h1, h2, h3, h4]
theorem rsum_Sx {l : List Str} {r : Str → Rat} {x : Str → Int} {M N : Nat} (hr : ∀ n, Sx M (r n)) (hx : ∀ n ∈ l, (x n).natAbs ≤ N) : Sx (l.length * (M * N)) (rsum (l.map fun n => r n * (x n : Rat))) := by
  induction l with
  | nil => exact Sx.zero
  | cons n l ih =>
    have h1 := (hr n).mulI (hx n List.mem_cons_self)
    have h2 := ih fun m hm => hx m (List.mem_cons_of_mem _ hm)
    refine (h1.add h2).mono ?_
    rw [List.length_cons, Nat.add_mul, Nat.one_mul]; omega
theorem price_sum {S : List Str} {T : Str → Int} {e : En} (h : EnOk S T e) (hl : S.length ≤ 3) {ks : List Str} {x : Str → Int} (hks : ∀ n ∈ S, n ∈ ks) {N : Nat} (hN : N ≤ 10 ^ 7) (hx : ∀ n ∈ S, (x n).natAbs ≤ N) (A C Dd : D) (j : Option D) :
    ∃ j', forM (gSet 6) l_f_law_price_1 (e.rs.map D.str) [some A, some (bkD ks x), some C, some Dd, some (riD e.rs e.r), some (frD e.base), j] = .ok (.nx, [some A, some (bkD ks x), some C, some Dd, some (riD e.rs e.r), some (frD (e.val x)), j']) := by
  have hrl := h.rs.length_le
  obtain ⟨ρ', q1, j', q2⟩ := forM_map_inv (t := gSet 6) (b := l_f_law_price_1) D.str (fun k ρ => ∃ j, ρ = [some A, some (bkD ks x), some C, some Dd, some (riD e.rs e.r), some (frD (e.base + rsum ((e.rs.take k).map fun n => e.r n * (x n : Rat)))), j]) e.rs
    [some A, some (bkD ks x), some C, some Dd, some (riD e.rs e.r), some (frD e.base), j] ⟨j, by
      have : e.base + rsum ((e.rs.take 0).map fun n => e.r n * (x n : Rat)) = e.base := by show e.base + 0 = _; grind
      rw [this]⟩ fun k n ρ hk ⟨j, eρ⟩ => by
      subst eρ
      have hn : n ∈ e.rs := List.mem_of_getElem? hk
      have hnS := h.rs.subset hn
      have hxn := hx n hnS
      have m1 : rv (m_f_law_mul [frD (e.r n), .tup [.int (x n), .int 1]]) = .ok (frD (e.r n * (x n : Rat))) := by
        rw [int_fr]
        exact lmulS (h.rS n) (by decide) (by omega)
      have s1 := rsum_Sx (l := e.rs.take k) h.rS (x := x) (N := N) fun m hm => hx m (h.rs.subset (List.mem_of_mem_take hm))
      have lt : (e.rs.take k).length ≤ 3 := by rw [List.length_take]; omega
      have b1 : (e.rs.take k).length * (72 * N) ≤ 3 * (72 * N) := Nat.mul_le_mul_right _ lt
      have s2 : Sx (200 + 3 * (72 * N)) (e.base + rsum ((e.rs.take k).map fun n => e.r n * (x n : Rat))) := (h.bS.add s1).mono (by omega)
      have m2 := laddS s2 ((h.rS n).mulI hxn) (by omega) (by omega)
      refine ⟨_, _, rfl, price_step A (bkD ks x) C Dd (.non) (riD e.rs e.r) (.str n) (.non) _ _ _ (ix_dS hn) (ix_dS (hks n hnS)) m1 m2, some (.str n), ?_⟩
      have : e.base + rsum ((e.rs.take (k + 1)).map fun n => e.r n * (x n : Rat)) = e.base + rsum ((e.rs.take k).map fun n => e.r n * (x n : Rat)) + e.r n * (x n : Rat) := by
        rw [take_succ' hk, List.map_append, rsum_app]
        show _ + (_ + (e.r n * (x n : Rat) + 0)) = _
        grind
      rw [this]
  refine ⟨j', ?_⟩
  rw [q1, q2, List.take_length]
  rfl
theorem price_yes (A B SH BA RI r : D) (j2 j3 j4 j5 j6 j6' : Option D) (h1 : rv (m_f_law_in_box [SH, B]) = .ok (.bl true)) (h2 : forA 4 (gSet 6) l_f_law_price_1 [some A, some B, some SH, some BA, some RI, some BA, j6] = .ok (.nx, [some A, some B, some SH, some BA, some RI, some r, j6'])) :
    l_f_law_price_2 [some A, some B, some SH, some BA, some RI, j5, j6] = .ok (.rt r, [some A, some B, some SH, some BA, some RI, some r, j6']) := by
  unfold l_f_law_price_2
  simp [-ap_forA, h1, h2]
theorem price_no (A B SH BA RI : D) (j5 j6 : Option D) (h1 : rv (m_f_law_in_box [SH, B]) = .ok (.bl false)) :
    l_f_law_price_2 [some A, some B, some SH, some BA, some RI, j5, j6] = .ok (.nx, [some A, some B, some SH, some BA, some RI, j5, j6]) := by
  unfold l_f_law_price_2
  simp [-ap_forA, h1]
theorem price_loop {S : List Str} {T : Str → Int} (hl : S.length ≤ 3) {ks : List Str} {x : Str → Int} (hks : ∀ n ∈ S, n ∈ ks) (hx : InSp S T x) {N : Nat} (hN : N ≤ 10 ^ 7) (hxN : ∀ n ∈ S, (x n).natAbs ≤ N) (A : D) :
    ∀ (E : List En), (∀ e ∈ E, EnOk S T e) → ∀ j2 j3 j4 j5 j6 : Option D, ∃ ρ', forM (gTupT 3 (gsCons (gSet 2) (gsCons (gSet 3) (gsCons (gSet 4) gsNil)))) l_f_law_price_2 (E.map entD) [some A, some (bkD ks x), j2, j3, j4, j5, j6] = match E.find? (fun e => inB S x e.bx) with
      | some e => .ok (.rt (frD (e.val x)), ρ')
      | none => .ok (.nx, ρ')
  | [], _, j2, j3, j4, j5, j6 => ⟨_, rfl⟩
  | e :: E, h, j2, j3, j4, j5, j6 => by
    have he := h e List.mem_cons_self
    have hk : e.ks.length < 1000 := by have := he.ks.length_le; omega
    have i1 := inbox_ok (K := e.ks) (ks := ks) (b := e.bx) (x := x) (fun n hn => hks n (he.ks.subset hn)) hk
    rw [all_in he hx] at i1
    rw [List.map_cons]
    unfold forM
    rw [show gTupT 3 (gsCons (gSet 2) (gsCons (gSet 3) (gsCons (gSet 4) gsNil))) (entD e) [some A, some (bkD ks x), j2, j3, j4, j5, j6] = .ok [some A, some (bkD ks x), some (shD e.ks e.bx), some (frD e.base), some (riD e.rs e.r), j5, j6] from rfl]
    dsimp only
    cases q : inB S x e.bx with
    | true =>
      rw [q] at i1
      obtain ⟨j', hj⟩ := price_sum he hl hks hN hxN A (shD e.ks e.bx) (frD e.base) j6
      rw [price_yes A (bkD ks x) (shD e.ks e.bx) (frD e.base) (riD e.rs e.r) _ j2 j3 j4 j5 j6 j' i1 (forA_dS (ks := e.rs) (f := fun n => frD (e.r n)) rfl hj)]
      have fe : (e :: E).find? (fun (z : En) => inB S x z.bx) = some e := List.find?_cons_of_pos q
      rw [fe]
      exact ⟨_, rfl⟩
    | false =>
      rw [q] at i1
      rw [price_no _ _ _ _ _ _ _ i1]
      obtain ⟨ρ', hρ⟩ := price_loop hl hks hx hN hxN A E (fun e he => h e (List.mem_cons_of_mem _ he)) (some (shD e.ks e.bx)) (some (frD e.base)) (some (riD e.rs e.r)) j5 j6
      have fe : (e :: E).find? (fun (z : En) => inB S x z.bx) = E.find? (fun (z : En) => inB S x z.bx) := List.find?_cons_of_neg (by rw [q]; decide)
      rw [fe]
      exact ⟨ρ', hρ⟩
theorem price_raw (EL : List D) (B : D) (r : Option D) (ρ' : Ev) (h : forM (gTupT 3 (gsCons (gSet 2) (gsCons (gSet 3) (gsCons (gSet 4) gsNil)))) l_f_law_price_2 EL [some (.lst EL), some B, none, none, none, none, none] = (match r with
    | some v => .ok (.rt v, ρ')
    | none => .ok (.nx, ρ'))) : rv (m_f_law_price [.lst EL, B]) = .ok (match r with
    | some v => v
    | none => .non) := by
  have h' := (forA_lst (i := 0) (ds := EL) rfl).trans h
  unfold m_f_law_price
  rw [rv_fn]
  unfold b_f_law_price
  cases r <;> simp [-ap_forA, h']
/-- the price of a basket of the space -/
def priceE (S : List Str) (E : List En) (x : Str → Int) : Rat := match E.find? fun e => inB S x e.bx with
  | some e => e.val x
  | none => 0
theorem count_mem {α : Type} {p : α → Bool} : ∀ {l : List α}, l.countP p = 1 → ∃ a ∈ l, p a = true
  | [], h => by simp at h
  | a :: l, h => by
    cases q : p a with
    | true => exact ⟨a, List.mem_cons_self, q⟩
    | false =>
      rw [List.countP_cons_of_neg (by rw [q]; decide)] at h
      obtain ⟨b, hb, hp⟩ := count_mem h
      exact ⟨b, List.mem_cons_of_mem _ hb, hp⟩
theorem count_uniq {α : Type} {p : α → Bool} : ∀ {l : List α}, l.countP p = 1 → ∀ a ∈ l, ∀ b ∈ l, p a = true → p b = true → a = b
  | [], h, _, ha, _, _, _, _ => by simp at ha
  | c :: l, h, a, ha, b, hb, pa, pb => by
    cases q : p c with
    | true =>
      rw [List.countP_cons_of_pos q] at h
      have h0 : l.countP p = 0 := by omega
      have no : ∀ z ∈ l, p z = true → False := fun z hz hp => (List.countP_eq_zero.mp h0 z hz) hp
      rcases List.mem_cons.mp ha with rfl | ha
      · rcases List.mem_cons.mp hb with rfl | hb
        · rfl
        · exact (no b hb pb).elim
      · exact (no a ha pa).elim
    | false =>
      rw [List.countP_cons_of_neg (by rw [q]; decide)] at h
      rcases List.mem_cons.mp ha with rfl | ha
      · rw [q] at pa; cases pa
      · rcases List.mem_cons.mp hb with rfl | hb
        · rw [q] at pb; cases pb
        · exact count_uniq h a ha b hb pa pb
/-- a price list of a space -/
structure Lst (S : List Str) (T : Str → Int) (E : List En) : Prop where
  ok : ∀ e ∈ E, EnOk S T e
  part : Part S T (E.map En.bx)
  len : E.length ≤ 10
theorem Lst.has {S : List Str} {T : Str → Int} {E : List En} (h : Lst S T E) {x : Str → Int} (hx : InSp S T x) : ∃ e ∈ E, inB S x e.bx = true := by
  have := h.part.one x hx
  rw [List.countP_map] at this
  exact count_mem this
theorem Lst.price {S : List Str} {T : Str → Int} {E : List En} (h : Lst S T E) {x : Str → Int} (hx : InSp S T x) {e : En} (he : e ∈ E) (hi : inB S x e.bx = true) : priceE S E x = e.val x := by
  have o := h.part.one x hx
  rw [List.countP_map] at o
  unfold priceE
  cases q : E.find? fun e => inB S x e.bx with
  | none => exact absurd hi (by have := List.find?_eq_none.mp q e he; exact this)
  | some e' => rw [count_uniq o e' (List.mem_of_find?_eq_some q) e he (List.find?_some q) hi]
theorem Lst.price_ok {S : List Str} {T : Str → Int} {E : List En} (h : Lst S T E) (hS : Names S) {ks : List Str} (hks : ∀ n ∈ S, n ∈ ks) {x : Str → Int} (hx : InSp S T x) (hT : ∀ n ∈ S, T n ≤ 10 ^ 7) : rv (m_f_law_price [.lst (E.map entD), bkD ks x]) = .ok (frD (priceE S E x)) := by
  obtain ⟨ρ', hρ⟩ := price_loop hS.l3 hks hx (N := 10 ^ 7) (Nat.le_refl _) (fun n hn => by have := hx n hn; have := hT n hn; omega) (.lst (E.map entD)) E h.ok none none none none none
  obtain ⟨e, he, hi⟩ := h.has hx
  have hp := h.price hx he hi
  cases q : E.find? fun e => inB S x e.bx with
  | none => exact absurd hi (by have := List.find?_eq_none.mp q e he; exact this)
  | some e' =>
    rw [q] at hρ
    have := price_raw _ _ (some (frD (e'.val x))) ρ' hρ
    rw [this]
    unfold priceE
    rw [q]
end DL.G
namespace DL.G
open PySem PySem.Spec L2
set_option autoImplicit false
/-! ### all baskets of a space -/
def setF (x : Str → Int) (n : Str) (p : Int) : Str → Int := fun m => if m = n then p else x m
def bStep (n : Str) (t : Nat) (x : Str → Int) : List (Str → Int) := (List.range (t + 1)).map fun (p : Nat) => setF x n (p : Int)
def bAll (L : List Str) (T : Str → Int) : List (Str → Int) := L.foldl (fun X n => X.flatMap (bStep n (T n).toNat)) [fun _ => 0]
theorem bAll_snoc (L : List Str) (n : Str) (T : Str → Int) : bAll (L ++ [n]) T = (bAll L T).flatMap (bStep n (T n).toNat) := by
  unfold bAll
  rw [List.foldl_append]
  rfl
theorem snoc_ind {α : Type} {P : List α → Prop} (h0 : P []) (h1 : ∀ l a, P l → P (l ++ [a])) : ∀ l, P l := fun l => by
  rw [← List.reverse_reverse l]
  generalize l.reverse = r
  induction r with
  | nil => exact h0
  | cons a r ih => rw [List.reverse_cons]; exact h1 _ _ ih
theorem bAll_mem {T : Str → Int} : ∀ (L : List Str), L.Nodup → (∀ n ∈ L, 0 ≤ T n) → ∀ x, x ∈ bAll L T ↔ (∀ n ∈ L, 0 ≤ x n ∧ x n ≤ T n) ∧ ∀ m, m ∉ L → x m = 0 := by
  refine snoc_ind ?_ ?_
  · intro _ _ x
    show x ∈ [fun _ => 0] ↔ _
    rw [List.mem_singleton]
    constructor
    · rintro rfl
      exact ⟨fun n hn => by simp at hn, fun _ _ => rfl⟩
    · rintro ⟨_, h⟩
      exact funext fun m => h m (by simp)
  · intro L n ih hn hT x
    have hn' := List.nodup_append.mp hn
    have hT' : ∀ m ∈ L, 0 ≤ T m := fun m hm => hT m (List.mem_append_left _ hm)
    have nL : n ∉ L := fun z => hn'.2.2 n z n (by simp) rfl
    rw [bAll_snoc, List.mem_flatMap]
    constructor
    · rintro ⟨y, hy, hx⟩
      obtain ⟨h1, h2⟩ := (ih hn'.1 hT' y).mp hy
      unfold bStep at hx
      obtain ⟨p, hp, rfl⟩ := List.mem_map.mp hx
      rw [List.mem_range] at hp
      have tn := hT n (by simp)
      refine ⟨fun m hm => ?_, fun m hm => ?_⟩
      · unfold setF
        by_cases e : m = n
        · subst e; rw [if_pos rfl]; omega
        · rw [if_neg e]
          rcases List.mem_append.mp hm with hm | hm
          · exact h1 m hm
          · exact absurd (List.mem_singleton.mp hm) e
      · unfold setF
        have e : ¬ m = n := fun z => hm (by rw [z]; simp)
        rw [if_neg e]
        exact h2 m fun z => hm (List.mem_append_left _ z)
    · rintro ⟨h1, h2⟩
      refine ⟨setF x n 0, (ih hn'.1 hT' _).mpr ⟨fun m hm => ?_, fun m hm => ?_⟩, ?_⟩
      · unfold setF
        have e : ¬ m = n := fun z => nL (z ▸ hm)
        rw [if_neg e]
        exact h1 m (List.mem_append_left _ hm)
      · unfold setF
        by_cases e : m = n
        · rw [if_pos e]
        · rw [if_neg e]
          exact h2 m fun z => by
            rcases List.mem_append.mp z with z | z
            · exact hm z
            · exact e (List.mem_singleton.mp z)
      · have hx := h1 n (by simp)
        refine List.mem_map.mpr ⟨(x n).toNat, by rw [List.mem_range]; omega, ?_⟩
        funext m
        unfold setF
        by_cases e : m = n
        · subst e; rw [if_pos rfl]; omega
        · rw [if_neg e, if_neg e]
theorem bAll_len {T : Str → Int} {t : Nat} : ∀ (L : List Str), (∀ n ∈ L, T n ≤ t) → (bAll L T).length ≤ (t + 1) ^ L.length := by
  refine snoc_ind ?_ ?_
  · intro _; exact Nat.le_refl 1
  · intro L n ih hT
    rw [bAll_snoc]
    have h1 := ih fun m hm => hT m (List.mem_append_left _ hm)
    have h2 := hT n (by simp)
    have : ∀ X : List (Str → Int), (X.flatMap (bStep n (T n).toNat)).length = X.length * ((T n).toNat + 1) := fun X => by
      induction X with
      | nil => simp
      | cons x X ih =>
        rw [List.flatMap_cons, List.length_append, ih, List.length_cons, Nat.add_mul, Nat.one_mul]
        unfold bStep
        rw [List.length_map, List.length_range]; omega
    rw [this, List.length_append, Nat.pow_add]
    refine Nat.mul_le_mul h1 ?_
    show _ ≤ (t + 1) ^ 1
    rw [Nat.pow_one]
    omega
theorem set_bk {ks : List Str} {x : Str → Int} {n : Str} {p : Int} (hn : n ∉ ks) (hl : ks.length < 10000) : setD1 (bkD ks x) (.str n) (.int p) = .ok (bkD (ks ++ [n]) (setF x n p)) := by
  unfold bkD
  rw [set_dS hl, if_neg hn]
  refine congrArg Res.ok (dS_congr fun m _ => ?_)
  unfold setF
  by_cases e : m = n
  · subst e; rw [if_pos rfl, if_pos rfl]
  · rw [if_neg e, if_neg e]
theorem set_bk' {ks : List Str} {x : Str → Int} {n : Str} {p : Int} (hn : n ∈ ks) (hl : ks.length < 10000) : setD1 (bkD ks x) (.str n) (.int p) = .ok (bkD ks (setF x n p)) := by
  unfold bkD
  rw [set_dS hl, if_pos hn]
  refine congrArg Res.ok (dS_congr fun m _ => ?_)
  unfold setF
  by_cases e : m = n
  · subst e; rw [if_pos rfl, if_pos rfl]
  · rw [if_neg e, if_neg e]
theorem bks_turn1 (A B C E F G G' : D) (M M' : List D) (p : Int) (j6 j7 : Option D) (h0 : dictD F = .ok F) (h1 : setD1 F C (.int p) = .ok G) (h2 : appendD M G = .ok (M', .non)) : l_f_law_baskets_1 [some A, some B, some C, some E, some (.lst M), some F, some (.int p), j7] = .ok (.nx, [some A, some B, some C, some E, some (.lst M'), some F, some (.int p), some G]) := by
  unfold l_f_law_baskets_1
  simp [h0, h1, h2]
theorem bks_loop1 {ks : List Str} {x : Str → Int} {n : Str} (hn : n ∉ ks) (hl : ks.length < 1000) (t : Nat) (M : List D) (hM : M.length + t < 5000) (A B E : D) (j6 j7 : Option D) : ∃ i6 i7, forM (gSet 6) l_f_law_baskets_1 (rngL 0 ((t : Int) + 1)) [some A, some B, some (.str n), some E, some (.lst M), some (bkD ks x), j6, j7] = .ok (.nx, [some A, some B, some (.str n), some E, some (.lst (M ++ (bStep n t x).map (bkD (ks ++ [n])))), some (bkD ks x), i6, i7]) := by
  obtain ⟨ρ', q1, i6, i7, q2⟩ := for_rng (t := gSet 6) (b := l_f_law_baskets_1) 0 ((t : Int) + 1) (fun k ρ => ∃ i6 i7, ρ = [some A, some B, some (.str n), some E, some (.lst (M ++ ((List.range k).map fun (p : Nat) => setF x n (p : Int)).map (bkD (ks ++ [n])))), some (bkD ks x), i6, i7])
    [some A, some B, some (.str n), some E, some (.lst M), some (bkD ks x), j6, j7] ⟨j6, j7, by simp⟩ fun k ρ hk ⟨i6, i7, e⟩ => by
      subst e
      refine ⟨_, _, rfl, bks_turn1 _ _ _ _ _ (bkD (ks ++ [n]) (setF x n (0 + (k : Int)))) (.non) _ _ _ i6 _ rfl (set_bk hn (by omega)) (appendD_lt (by simp; omega)), some (.int (0 + (k : Int))), some (bkD (ks ++ [n]) (setF x n (0 + (k : Int)))), ?_⟩
      rw [List.range_succ, List.map_append, List.map_append, List.append_assoc, Int.zero_add]
      rfl
  refine ⟨i6, i7, ?_⟩
  rw [q1, q2]
  have : ((t : Int) + 1 - 0).toNat = t + 1 := by omega
  rw [this]
  rfl
theorem bks_turn2 (A B C F : D) (t : Int) (M M' : List D) (rg : List D) (j6 j7 i6 i7 : Option D) (hr : rng1D (.int (t + 1)) = .ok rg) (h : forM (gSet 6) l_f_law_baskets_1 rg [some A, some B, some C, some (.int t), some (.lst M), some F, j6, j7] = .ok (.nx, [some A, some B, some C, some (.int t), some (.lst M'), some F, i6, i7])) : l_f_law_baskets_2 [some A, some B, some C, some (.int t), some (.lst M), some F, j6, j7] = .ok (.nx, [some A, some B, some C, some (.int t), some (.lst M'), some F, i6, i7]) := by
  unfold l_f_law_baskets_2
  simp [hr, h]
theorem flat_len (n : Str) (t : Nat) (X : List (Str → Int)) : (X.flatMap (bStep n t)).length = X.length * (t + 1) := by
  induction X with
  | nil => simp
  | cons x X ih =>
    rw [List.flatMap_cons, List.length_append, ih, List.length_cons, Nat.add_mul, Nat.one_mul]
    unfold bStep
    rw [List.length_map, List.length_range]; omega
theorem bks_loop2 {ks : List Str} {n : Str} (hn : n ∉ ks) (hl : ks.length < 1000) (t : Nat) (X : List (Str → Int)) (hX : X.length * (t + 1) < 4000) (ht : t < 500) (A : D) (B : D) (j5 j6 j7 : Option D) : ∃ i5 i6 i7, forM (gSet 5) l_f_law_baskets_2 (X.map (bkD ks)) [some A, some B, some (.str n), some (.int (t : Int)), some (.lst []), j5, j6, j7] = .ok (.nx, [some A, some B, some (.str n), some (.int (t : Int)), some (.lst ((X.flatMap (bStep n t)).map (bkD (ks ++ [n])))), i5, i6, i7]) := by
  obtain ⟨ρ', q1, i5, i6, i7, q2⟩ := forM_map_inv (t := gSet 5) (b := l_f_law_baskets_2) (bkD ks) (fun k ρ => ∃ i5 i6 i7, ρ = [some A, some B, some (.str n), some (.int (t : Int)), some (.lst (((X.take k).flatMap (bStep n t)).map (bkD (ks ++ [n])))), i5, i6, i7]) X
    [some A, some B, some (.str n), some (.int (t : Int)), some (.lst []), j5, j6, j7] ⟨j5, j6, j7, rfl⟩ fun k x ρ hk ⟨i5, i6, i7, e⟩ => by
      subst e
      have hk' := (List.getElem?_eq_some_iff.mp hk).1
      have hb : (((X.take k).flatMap (bStep n t)).map (bkD (ks ++ [n]))).length + t < 5000 := by
        rw [List.length_map, flat_len, List.length_take]
        have : min k X.length * (t + 1) ≤ X.length * (t + 1) := Nat.mul_le_mul_right _ (Nat.min_le_right _ _)
        omega
      obtain ⟨a6, a7, h⟩ := bks_loop1 (x := x) hn hl t _ hb A B (.int (t : Int)) i6 i7
      refine ⟨_, _, rfl, bks_turn2 _ _ _ _ _ _ _ _ _ _ _ _ (rng1_ok (by omega)) h, some (bkD ks x), a6, a7, ?_⟩
      rw [take_succ' hk, List.flatMap_append, List.map_append]
      simp
  rw [List.take_length] at q2
  exact ⟨i5, i6, i7, by rw [q1, q2]⟩
theorem bks_turn3 (A C E : D) (X X' : List D) (j4 j5 j6 j7 i5 i6 i7 : Option D) (h : forM (gSet 5) l_f_law_baskets_2 X [some A, some (.lst X), some C, some E, some (.lst []), j5, j6, j7] = .ok (.nx, [some A, some (.lst X), some C, some E, some (.lst X'), i5, i6, i7])) : l_f_law_baskets_3 [some A, some (.lst X), some C, some E, j4, j5, j6, j7] = .ok (.nx, [some A, some (.lst X'), some C, some E, some (.lst X'), i5, i6, i7]) := by
  have h' := (forA_lst (i := 1) (ds := X) rfl).trans h
  unfold l_f_law_baskets_3
  simp [-ap_forA, h']
theorem bks_raw (A r : D) (SL : List D) (j2 j3 j4 j5 j6 j7 : Option D) (hs : sortedD A = .ok (.lst SL)) (h : forM (gTupT 2 (gsCons (gSet 2) (gsCons (gSet 3) gsNil))) l_f_law_baskets_3 SL [some A, some (.lst [.dic false []]), none, none, none, none, none, none] = .ok (.nx, [some A, some r, j2, j3, j4, j5, j6, j7])) : rv (m_f_law_baskets [A]) = .ok r := by
  unfold m_f_law_baskets
  rw [rv_fn]
  unfold b_f_law_baskets
  simp [hs, h]
theorem baskets_ok {S : List Str} {T : Str → Int} (hS : Names S) (hT : ∀ n ∈ S, 0 ≤ T n ∧ T n ≤ 4) : rv (m_f_law_baskets [spD S T]) = .ok (.lst ((bAll (strSort S) T).map (bkD (strSort S)))) := by
  have hn : (strSort S).Nodup := strSort_nodup.mpr hS.nd
  have hm : ∀ n ∈ strSort S, 0 ≤ T n ∧ T n ≤ 4 := fun n h => hT n (strSort_mem.mp h)
  have hl3 : (strSort S).length ≤ 3 := by rw [strSort_len]; exact hS.l3
  have hsort : sortedD (spD S T) = .ok (.lst ((strSort S).map (tupS fun n => .int (T n)))) := sorted_pairs hS.nd
  generalize strSort S = L at hn hm hl3 hsort
  obtain ⟨ρ', q1, j2, j3, j4, j5, j6, j7, q2⟩ := forM_map_inv (t := gTupT 2 (gsCons (gSet 2) (gsCons (gSet 3) gsNil))) (b := l_f_law_baskets_3) (tupS fun n => .int (T n)) (fun k ρ => ∃ j2 j3 j4 j5 j6 j7, ρ = [some (spD S T), some (.lst ((bAll (L.take k) T).map (bkD (L.take k)))), j2, j3, j4, j5, j6, j7]) L
    [some (spD S T), some (.lst [.dic false []]), none, none, none, none, none, none] ⟨none, none, none, none, none, none, rfl⟩ fun k n ρ hk ⟨j2, j3, j4, j5, j6, j7, e⟩ => by
      subst e
      have hnL : n ∈ L := List.mem_of_getElem? hk
      obtain ⟨t1, t2⟩ := hm n hnL
      obtain ⟨t, ht⟩ : ∃ t : Nat, T n = (t : Int) := ⟨(T n).toNat, by omega⟩
      have nk : n ∉ L.take k := fun z => by
        have nd := hn
        rw [← List.take_append_drop (k + 1) L, take_succ' hk] at nd
        exact (List.nodup_append.mp (List.nodup_append.mp nd).1).2.2 n z n (by simp) rfl
      have hlen : (bAll (L.take k) T).length ≤ 5 ^ 3 := by
        have h1 := bAll_len (T := T) (t := 4) (L.take k) fun m hm' => (hm m (List.mem_of_mem_take hm')).2
        have h2 : (L.take k).length ≤ 3 := by rw [List.length_take]; omega
        exact Nat.le_trans h1 (Nat.pow_le_pow_right (by decide) h2)
      obtain ⟨i5, i6, i7, h⟩ := bks_loop2 nk (by rw [List.length_take]; omega) t (bAll (L.take k) T) (by
        have : (bAll (L.take k) T).length * (t + 1) ≤ 125 * 5 := Nat.mul_le_mul hlen (by omega)
        omega) (by omega) (spD S T) (.lst ((bAll (L.take k) T).map (bkD (L.take k)))) j5 j6 j7
      have e1 : bAll (L.take (k + 1)) T = (bAll (L.take k) T).flatMap (bStep n t) := by
        rw [take_succ' hk, bAll_snoc, ht]
        rfl
      refine ⟨[some (spD S T), some (.lst ((bAll (L.take k) T).map (bkD (L.take k)))), some (.str n), some (.int (t : Int)), j4, j5, j6, j7], _, by rw [← ht]; rfl, bks_turn3 _ _ _ _ _ _ _ _ _ _ _ _ h, some (.str n), some (.int (t : Int)), some (.lst (((bAll (L.take k) T).flatMap (bStep n t)).map (bkD (L.take k ++ [n])))), i5, i6, i7, ?_⟩
      rw [e1, take_succ' hk]
  rw [List.take_length] at q2
  subst q2
  exact bks_raw _ _ _ _ _ _ _ _ _ hsort q1
end DL.G
namespace DL.G
open PySem PySem.Spec L2
set_option autoImplicit false
/-! ### whole, common -/
theorem whole_elem (A B n : D) (t : Int) (r : D) (hB : isDic B = true) (h : getD2 B n (.tup [.int 0, .int t]) = .ok r) : eGet2 (eVar 1) (eVar 2) (eL gTup (eCons (eRet (.int 0)) (eCons (eVar 3) eNil))) [some A, some B, some n, some (.int t)] = .ok (r, [some A, some B, some n, some (.int t)]) := by
  simp [hB, h]
theorem whole_raw (L : List D) (B : D) (K : List (D × D)) (h : dcompM [2, 3] (gTupT 2 (gsCons (gSet 2) (gsCons (gSet 3) gsNil))) eYes (eVar 2) (eGet2 (eVar 1) (eVar 2) (eL gTup (eCons (eRet (.int 0)) (eCons (eVar 3) eNil)))) L [some (.lst L), some B, none, none] [] = .ok (K, [some (.lst L), some B, none, none])) : rv (m_whole [.lst L, B]) = .ok (.dic false K) := by
  unfold m_whole
  rw [rv_fn]
  unfold b_whole
  simp [wipeE, h, restE]
theorem whole_ok {S : List Str} {T : Str → Int} {K : List Str} {b : Bo} (hn : S.Nodup) (hl : S.length < 1000) (hw : ∀ n ∈ S, n ∉ K → b.lo n = 0 ∧ b.hi n = T n) : rv (m_whole [spD S T, shD K b]) = .ok (bxD S b) := by
  have hd := dcomp_all (vs := [2, 3]) (t := gTupT 2 (gsCons (gSet 2) (gsCons (gSet 3) gsNil))) (ek := eVar 2) (e := eGet2 (eVar 1) (eVar 2) (eL gTup (eCons (eRet (.int 0)) (eCons (eVar 3) eNil)))) (ρ0 := [some (spD S T), some (shD K b), none, none]) (tupS fun n => .int (T n)) (fun n => n) (fun n => rgD (b.lo n) (b.hi n)) S [] (fun n hnS => ⟨[some (spD S T), some (shD K b), some (.str n), some (.int (T n))], rfl, rfl, by
    refine whole_elem _ _ _ _ _ rfl ?_
    unfold shD
    rw [get2_dS]
    by_cases c : n ∈ K
    · rw [if_pos c]
    · obtain ⟨h1, h2⟩ := hw n hnS c
      rw [if_neg c, h1, h2]
      rfl, rfl⟩) (by simpa using hn) (by simp; omega)
  rw [List.map_id', List.nil_append] at hd
  exact whole_raw _ _ _ hd
theorem whole_full {S : List Str} {T : Str → Int} {b : Bo} (hn : S.Nodup) (hl : S.length < 1000) : rv (m_whole [spD S T, bxD S b]) = .ok (bxD S b) := whole_ok (K := S) hn hl fun n h1 h2 => absurd h1 h2
def bcap (b c : Bo) : Bo := ⟨fun n => max (b.lo n) (c.lo n), fun n => min (b.hi n) (c.hi n)⟩
def bne (S : List Str) (b : Bo) : Bool := S.all fun n => decide (b.lo n ≤ b.hi n)
theorem max_int (a c : Int) : maxD (.int a) (.int c) = .ok (.int (max a c)) := by
  show Res.ok (D.int (if c > a then c else a)) = _
  congr 2
  split <;> omega
theorem min_int (a c : Int) : minD (.int a) (.int c) = .ok (.int (min a c)) := by
  show Res.ok (D.int (if c < a then c else a)) = _
  congr 2
  split <;> omega
theorem cut_turn (A B C F G H H' n : D) (a b c d : Int) (j7 j8 : Option D) (h1 : ixD F n = .ok (rgD a b)) (h2 : ixD G n = .ok (rgD c d)) (h3 : setD1 H n (rgD (max a c) (min b d)) = .ok H') :
    l_common_1 [some A, some B, some C, some F, some G, some H, some n, j7, j8] = (if max a c ≤ min b d then .ok (.nx, [some A, some B, some C, some F, some G, some H', some n, some (.int (max a c)), some (.int (min b d))]) else .ok (.rt .non, [some A, some B, some C, some F, some G, some H, some n, some (.int (max a c)), some (.int (min b d))])) := by
  unfold l_common_1 rgD at *
  have m1 := max_int a c
  have m2 := min_int b d
  by_cases z : max a c ≤ min b d
  · rw [if_pos z]
    have z' : ¬ (min b d < max a c) := by omega
    simp [h1, h2, m1, m2, z', h3]
  · rw [if_neg z]
    have z' : min b d < max a c := by omega
    simp [h1, h2, m1, m2, z']
theorem common_loop {S : List Str} {b c : Bo} (A B C : D) : ∀ (rest done : List Str), (done ++ rest).Nodup → (∀ n ∈ rest, n ∈ S) → (done ++ rest).length < 1000 → ∀ j6 j7 j8 : Option D, ∃ i6 i7 i8 Z,
    forM (gSet 6) l_common_1 (rest.map .str) [some A, some B, some C, some (bxD S b), some (bxD S c), some (bxD done (bcap b c)), j6, j7, j8] =
      (if bne rest (bcap b c) = true then .ok (.nx, [some A, some B, some C, some (bxD S b), some (bxD S c), some (bxD (done ++ rest) (bcap b c)), i6, i7, i8]) else .ok (.rt .non, Z))
  | [], done, _, _, _, j6, j7, j8 => ⟨j6, j7, j8, [], by rw [List.append_nil]; rfl⟩
  | n :: rest, done, hn, hS, hl, j6, j7, j8 => by
    have hd : n ∉ done := fun z => (List.nodup_append.mp hn).2.2 n z n List.mem_cons_self rfl
    have hnS : n ∈ S := hS n List.mem_cons_self
    have e3 : setD1 (bxD done (bcap b c)) (.str n) (rgD (max (b.lo n) (c.lo n)) (min (b.hi n) (c.hi n))) = .ok (bxD (done ++ [n]) (bcap b c)) := by
      unfold bxD
      rw [set_dS (by simp at hl; omega), if_neg hd]
      refine congrArg Res.ok (dS_congr fun m _ => ?_)
      by_cases e : m = n
      · subst e; rw [if_pos rfl]; rfl
      · rw [if_neg e]
    have tn := cut_turn A B C (bxD S b) (bxD S c) (bxD done (bcap b c)) _ (.str n) (b.lo n) (b.hi n) (c.lo n) (c.hi n) j7 j8 (ix_dS hnS) (ix_dS hnS) e3
    by_cases z : max (b.lo n) (c.lo n) ≤ min (b.hi n) (c.hi n)
    · rw [if_pos z] at tn
      obtain ⟨i6, i7, i8, Z, ih⟩ := common_loop A B C rest (done ++ [n]) (by simpa using hn) (fun m hm => hS m (List.mem_cons_of_mem _ hm)) (by simpa using hl) (some (.str n)) (some (.int (max (b.lo n) (c.lo n)))) (some (.int (min (b.hi n) (c.hi n))))
      refine ⟨i6, i7, i8, Z, ?_⟩
      rw [List.map_cons, forM_nx (by rfl) tn, ih]
      have e : bne (n :: rest) (bcap b c) = bne rest (bcap b c) := by
        show (decide (max (b.lo n) (c.lo n) ≤ min (b.hi n) (c.hi n)) && _) = _
        rw [decide_eq_true z]
        rfl
      rw [e, List.append_assoc]
      rfl
    · rw [if_neg z] at tn
      refine ⟨none, none, none, [some A, some B, some C, some (bxD S b), some (bxD S c), some (bxD done (bcap b c)), some (.str n), some (.int (max (b.lo n) (c.lo n))), some (.int (min (b.hi n) (c.hi n)))], ?_⟩
      rw [List.map_cons, forM_rt (by rfl) tn]
      have e : bne (n :: rest) (bcap b c) = false := by
        show (decide (max (b.lo n) (c.lo n) ≤ min (b.hi n) (c.hi n)) && _) = _
        rw [decide_eq_false z]
        rfl
      rw [e]
      rfl
theorem common_raw (A B C F G : D) (r : Fl × Ev) (v : D) (h1 : rv (m_whole [A, B]) = .ok F) (h2 : rv (m_whole [A, C]) = .ok G) (h3 : forA 3 (gSet 6) l_common_1 [some A, some B, some C, some F, some G, some (.dic false []), none, none, none] = .ok r)
    (h4 : (r.1 = .nx ∧ r.2[5]? = some (some v)) ∨ r.1 = .rt v) : rv (m_common [A, B, C]) = .ok v := by
  unfold m_common
  rw [rv_fn]
  unfold b_common
  obtain ⟨f, ρ⟩ := r
  rcases h4 with ⟨e1, e2⟩ | e1
  · dsimp only at e1 e2
    subst e1
    simp [-ap_forA, h1, h2, h3, e2]
  · dsimp only at e1
    subst e1
    simp [-ap_forA, h1, h2, h3]
theorem common_ok {S : List Str} {T : Str → Int} {K L : List Str} {b c : Bo} (hn : S.Nodup) (hl : S.length < 1000) (hb : ∀ n ∈ S, n ∉ K → b.lo n = 0 ∧ b.hi n = T n) (hc : ∀ n ∈ S, n ∉ L → c.lo n = 0 ∧ c.hi n = T n) :
    rv (m_common [spD S T, shD K b, shD L c]) = .ok (if bne S (bcap b c) = true then bxD S (bcap b c) else .non) := by
  obtain ⟨i6, i7, i8, Z, h⟩ := common_loop (S := S) (b := b) (c := c) (spD S T) (shD K b) (shD L c) S [] (by simpa using hn) (fun n h => h) (by simpa using hl) none none none
  have h1 := whole_ok (T := T) (K := K) (b := b) hn hl hb
  have h2 := whole_ok (T := T) (K := L) (b := c) hn hl hc
  by_cases z : bne S (bcap b c) = true
  · rw [if_pos z] at h ⊢
    exact common_raw _ _ _ _ _ _ _ h1 h2 (forA_dS rfl h) (.inl ⟨rfl, rfl⟩)
  · rw [if_neg z] at h ⊢
    exact common_raw _ _ _ _ _ _ _ h1 h2 (forA_dS rfl h) (.inr rfl)
end DL.G
namespace DL.G
open PySem PySem.Spec L2
set_option autoImplicit false
/-! ### rows of whole numbers, compared -/
def rowLt : List Int → List Int → Bool
  | [], [] => false
  | [], _ :: _ => true
  | _ :: _, [] => false
  | x :: xs, y :: ys => if x = y then rowLt xs ys else decide (x < y)
theorem rowLt_data : ∀ xs ys : List Int, PySem.W.dataLt (.list (xs.map .int)) (.list (ys.map .int)) = rowLt xs ys := by
  have h : ∀ xs ys : List Int, PySem.W.listLt xs ys = rowLt xs ys := by
    intro xs
    induction xs with
    | nil => intro ys; cases ys <;> rfl
    | cons x xs ih =>
      intro ys
      cases ys with
      | nil => rfl
      | cons y ys =>
        unfold PySem.W.listLt rowLt
        by_cases e : x = y
        · rw [if_pos e, if_pos e, ih]
        · rw [if_neg e, if_neg e]
          rfl
  intro xs ys
  rw [← h]
  exact (PySem.W.DatumOrd.lt_eq xs ys)
theorem rowLt_irrefl : ∀ xs, rowLt xs xs = false
  | [] => rfl
  | x :: xs => by
    unfold rowLt
    rw [if_pos rfl]
    exact rowLt_irrefl xs
theorem rowLt_trans : ∀ {xs ys zs}, rowLt xs ys = true → rowLt ys zs = true → rowLt xs zs = true
  | [], [], _, h, _ => by cases h
  | [], _ :: _, [], _, h => by cases h
  | [], _ :: _, _ :: _, _, _ => rfl
  | _ :: _, [], _, h, _ => by cases h
  | x :: xs, y :: ys, [], _, h => by cases h
  | x :: xs, y :: ys, z :: zs, h, k => by
    unfold rowLt at *
    by_cases e1 : x = y
    · rw [if_pos e1] at h
      by_cases e2 : y = z
      · rw [if_pos e2] at k
        rw [if_pos (e1.trans e2)]
        exact rowLt_trans h k
      · rw [if_neg e2] at k
        rw [if_neg (fun e => e2 (e1.symm.trans e)), e1]
        exact k
    · rw [if_neg e1, decide_eq_true_eq] at h
      by_cases e2 : y = z
      · rw [if_neg (fun e => e1 (e.trans e2.symm)), ← e2]
        exact decide_eq_true h
      · rw [if_neg e2, decide_eq_true_eq] at k
        rw [if_neg (by omega)]
        exact decide_eq_true (by omega)
theorem rowLt_tri : ∀ {xs ys : List Int}, xs.length = ys.length → rowLt xs ys = false → rowLt ys xs = false → xs = ys
  | [], [], _, _, _ => rfl
  | [], _ :: _, h, _, _ => by cases h
  | _ :: _, [], h, _, _ => by cases h
  | x :: xs, y :: ys, hl, h, k => by
    unfold rowLt at *
    by_cases e : x = y
    · rw [if_pos e] at h
      rw [if_pos e.symm] at k
      rw [e, rowLt_tri (by simpa using hl) h k]
    · rw [if_neg e, decide_eq_false_iff_not] at h
      rw [if_neg (Ne.symm e), decide_eq_false_iff_not] at k
      omega
/-- coordinates that are nowhere less -/
theorem rowLt_ge : ∀ {L : List Str} {x y : Str → Int}, (∀ n ∈ L, x n ≤ y n) → rowLt (L.map y) (L.map x) = false
  | [], _, _, _ => rfl
  | n :: L, x, y, h => by
    rw [List.map_cons, List.map_cons]
    unfold rowLt
    have h1 := h n List.mem_cons_self
    by_cases e : y n = x n
    · rw [if_pos e]
      exact rowLt_ge fun m hm => h m (List.mem_cons_of_mem _ hm)
    · rw [if_neg e]
      exact decide_eq_false (by omega)
/-! ### the better of baskets -/
def btr (v : (Str → Int) → Rat) (L : List Str) (x y : Str → Int) : Bool := decide (v x < v y) || (decide (v x = v y) && rowLt (L.map x) (L.map y))
def pickB (v : (Str → Int) → Rat) (L : List Str) (o : Option (Str → Int)) (x : Str → Int) : Option (Str → Int) := match o with
  | none => some x
  | some y => if btr v L x y = true then some x else o
theorem btr_irrefl (v : (Str → Int) → Rat) (L : List Str) (x : Str → Int) : btr v L x x = false := by
  unfold btr
  rw [rowLt_irrefl]
  simp
theorem btr_trans {v : (Str → Int) → Rat} {L : List Str} {x y z : Str → Int} (h : btr v L x y = true) (k : btr v L y z = true) : btr v L x z = true := by
  unfold btr at *
  simp only [Bool.or_eq_true, Bool.and_eq_true, decide_eq_true_eq] at *
  rcases h with h | ⟨h1, h2⟩ <;> rcases k with k | ⟨k1, k2⟩
  · left; grind
  · left; grind
  · left; grind
  · exact .inr ⟨h1.trans k1, rowLt_trans h2 k2⟩
theorem btr_tri {v : (Str → Int) → Rat} {L : List Str} {x y : Str → Int} (h : btr v L x y = false) (k : btr v L y x = false) : v x = v y ∧ L.map x = L.map y := by
  unfold btr at *
  simp only [Bool.or_eq_false_iff, Bool.and_eq_false_iff, decide_eq_false_iff_not] at *
  have e : v x = v y := by
    have h1 := h.1
    have k1 := k.1
    grind
  refine ⟨e, rowLt_tri (by simp) ?_ ?_⟩
  · exact h.2.resolve_left fun z => z e
  · exact k.2.resolve_left fun z => z e.symm
/-- what stands at the end -/
theorem pickB_spec {v : (Str → Int) → Rat} {L : List Str} : ∀ (l : List (Str → Int)) (o : Option (Str → Int)), (l = [] ∧ o = none) ∨ ∃ q, l.foldl (pickB v L) o = some q ∧ (q ∈ l ∨ o = some q) ∧ (∀ y ∈ l, btr v L y q = false) ∧ ∀ y, o = some y → btr v L y q = false
  | [], none => .inl ⟨rfl, rfl⟩
  | [], some q => .inr ⟨q, rfl, .inr rfl, by simp, fun y e => by cases e; exact btr_irrefl v L q⟩
  | x :: l, o => by
    right
    rw [List.foldl_cons]
    obtain ⟨z, hz⟩ : ∃ z, pickB v L o x = some z := by
      cases o with
      | none => exact ⟨x, rfl⟩
      | some y =>
        by_cases c : btr v L x y = true
        · exact ⟨x, if_pos c⟩
        · exact ⟨y, if_neg c⟩
    have hx : btr v L x z = false ∧ ∀ y, o = some y → btr v L y z = false ∧ (z = x ∨ z = y) := by
      cases o with
      | none => cases hz; exact ⟨btr_irrefl v L x, fun y e => by cases e⟩
      | some y =>
        unfold pickB at hz
        dsimp only at hz
        by_cases c : btr v L x y = true
        · rw [if_pos c] at hz
          cases hz
          refine ⟨btr_irrefl v L x, fun y' e => ?_⟩
          cases e
          refine ⟨?_, .inl rfl⟩
          cases d : btr v L y x with
          | false => rfl
          | true =>
            have := btr_trans c d
            rw [btr_irrefl] at this
            cases this
        · rw [if_neg c] at hz
          cases hz
          exact ⟨by simpa using c, fun y' e => by cases e; exact ⟨btr_irrefl v L _, .inr rfl⟩⟩
    rcases pickB_spec (v := v) (L := L) l (some z) with ⟨_, e⟩ | ⟨q, h1, h2, h3, h4⟩
    · cases e
    · rw [hz]
      have zq := h4 z rfl
      have low : ∀ y, btr v L y z = false → btr v L y q = false := fun y hy => by
        cases d : btr v L y q with
        | false => rfl
        | true =>
          -- y better than q, q not worse than z
          rcases Bool.eq_false_or_eq_true (btr v L q z) with k | k
          · have := btr_trans d k
            rw [hy] at this
            cases this
          · obtain ⟨e1, e2⟩ := btr_tri zq k
            have : btr v L y q = btr v L y z := by unfold btr; rw [e1, e2]
            rw [this, hy] at d
            cases d
      refine ⟨q, h1, ?_, fun y hy => ?_, fun y e => low y (hx.2 y e).1⟩
      · rcases h2 with h2 | h2
        · exact .inl (List.mem_cons_of_mem _ h2)
        · cases h2
          cases o with
          | none => cases hz; exact .inl List.mem_cons_self
          | some y =>
            rcases (hx.2 y rfl).2 with e | e
            · rw [e]; exact .inl List.mem_cons_self
            · rw [e]; exact .inr rfl
      · rcases List.mem_cons.mp hy with e | hy
        · subst e; exact low _ hx.1
        · exact h3 y hy
/-- two lists, each as good as the other -/
theorem same_best {v : (Str → Int) → Rat} {L : List Str} {A B : List (Str → Int)} (h0 : A ≠ []) (hA : ∀ a ∈ A, ∃ b ∈ B, btr v L a b = false) (hB : ∀ b ∈ B, ∃ a ∈ A, btr v L b a = false) :
    ∃ p q, A.foldl (pickB v L) none = some p ∧ B.foldl (pickB v L) none = some q ∧ p ∈ A ∧ q ∈ B ∧ v p = v q ∧ L.map p = L.map q := by
  have b0 : B ≠ [] := by
    cases A with
    | nil => exact absurd rfl h0
    | cons a A =>
      obtain ⟨b, hb, _⟩ := hA a List.mem_cons_self
      exact List.ne_nil_of_mem hb
  rcases pickB_spec (v := v) (L := L) A none with ⟨e, _⟩ | ⟨p, p1, p2, p3, _⟩
  · exact absurd e h0
  rcases pickB_spec (v := v) (L := L) B none with ⟨e, _⟩ | ⟨q, q1, q2, q3, _⟩
  · exact absurd e b0
  have hp : p ∈ A := p2.resolve_right (by simp)
  have hq : q ∈ B := q2.resolve_right (by simp)
  have nlt : ∀ {x y z : Str → Int}, btr v L x y = false → btr v L y z = false → btr v L x z = false := fun {x y z} h k => by
    cases d : btr v L x z with
    | false => rfl
    | true =>
      rcases Bool.eq_false_or_eq_true (btr v L z y) with k2 | k2
      · have := btr_trans d k2
        rw [h] at this
        cases this
      · obtain ⟨e1, e2⟩ := btr_tri k k2
        have : btr v L x z = btr v L x y := by unfold btr; rw [e1, e2]
        rw [this, h] at d
        cases d
  have pq : btr v L p q = false := by
    obtain ⟨b, hb, h⟩ := hA p hp
    exact nlt h (q3 b hb)
  have qp : btr v L q p = false := by
    obtain ⟨a, ha, h⟩ := hB q hq
    exact nlt h (p3 a ha)
  obtain ⟨e1, e2⟩ := btr_tri pq qp
  exact ⟨p, q, p1, q1, hp, hq, e1, e2⟩
end DL.G
namespace DL.G
open PySem PySem.Spec L2
open PySem.W (dataLt alike)
set_option autoImplicit false
/-! ### rows -/
def rowD (ks : List Str) (x : Str → Int) : D := .lst ((strSort ks).map fun n => .int (x n))
theorem row_comp {ks : List Str} {x : Str → Int} (hl : ks.length < 64) : compM [1] (gSet 1) eYes (e2 ixD (eVar 0) (eVar 1)) ((strSort ks).map D.str) [some (bkD ks x), none] [] = .ok ((strSort ks).map fun n => .int (x n), [some (bkD ks x), none]) := by
  refine compM_all (ρ0 := [some (bkD ks x), none]) D.str (fun n => .int (x n)) (strSort ks) (fun n hn => ⟨[some (bkD ks x), some (.str n)], rfl, ?_, rfl⟩) (by rw [strSort_len]; omega)
  have h1 : ixD (bkD ks x) (.str n) = .ok (.int (x n)) := ix_dS (strSort_mem.mp hn)
  generalize bkD ks x = B at h1 ⊢
  simp [h1]
theorem in_row_raw (B : D) (L M : List D) (h1 : sortedD B = .ok (.lst L)) (h2 : compM [1] (gSet 1) eYes (e2 ixD (eVar 0) (eVar 1)) L [some B, none] [] = .ok (M, [some B, none])) : rv (m_in_row [B]) = .ok (.lst M) := by
  unfold m_in_row
  rw [rv_fn]
  unfold b_in_row
  simp [h1, wipeE, h2, restE]
theorem law_row_raw (B : D) (L M : List D) (h1 : sortedD B = .ok (.lst L)) (h2 : compM [1] (gSet 1) eYes (e2 ixD (eVar 0) (eVar 1)) L [some B, none] [] = .ok (M, [some B, none])) : rv (m_f_law_row [B]) = .ok (.lst M) := by
  unfold m_f_law_row
  rw [rv_fn]
  unfold b_f_law_row
  simp [h1, wipeE, h2, restE]
theorem in_row_ok {ks : List Str} {x : Str → Int} (hl : ks.length < 64) : rv (m_in_row [bkD ks x]) = .ok (rowD ks x) := in_row_raw _ _ _ (sorted_dS hl) (row_comp hl)
theorem law_row_ok {ks : List Str} {x : Str → Int} (hl : ks.length < 64) : rv (m_f_law_row [bkD ks x]) = .ok (rowD ks x) := law_row_raw _ _ _ (sorted_dS hl) (row_comp hl)
theorem row_lt (ks : List Str) (x y : Str → Int) : ltP (fun p q => dataLt p q) (rowD ks x) (rowD ks y) = .ok (rowLt ((strSort ks).map x) ((strSort ks).map y)) := by
  have e : ∀ z : Str → Int, toP (rowD ks z) = some (.list (((strSort ks).map z).map .int)) := fun z => by
    have : toPs ((strSort ks).map fun n => .int (z n)) = some (((strSort ks).map z).map .int) := by
      induction strSort ks with
      | nil => rfl
      | cons n L ih =>
        rw [List.map_cons, List.map_cons, List.map_cons]
        show (match toP (.int (z n)), toPs (L.map fun n => .int (z n)) with
          | some p, some ps => some (p :: ps)
          | _, _ => none) = _
        rw [ih]
        rfl
    show (toPs ((strSort ks).map fun n => .int (z n))).map PyData.list = _
    rw [this]
    rfl
  unfold ltP
  rw [e, e]
  dsimp only
  have ok : okP (.list (((strSort ks).map x).map .int)) (.list (((strSort ks).map y).map .int)) = true := by
    unfold okP
    simp only [Bool.and_eq_true, decide_eq_true_eq]
    refine ⟨⟨PySem.W.DatumOrd.alike (α := List Int) _ _, rfl⟩, ?_⟩
    have dz : ∀ l : List Int, PyData.depthAll (l.map .int) = 0 := fun l => by
      induction l with
      | nil => simp [PyData.depthAll]
      | cons a l ih => simp [PyData.depthAll, PyData.depth, ih]
    simp only [PyData.depth, dz]
    decide
  rw [if_pos ok, rowLt_data]
/-! ### the best of a list of baskets, as the law says -/
def fD (ks : List Str) (v : (Str → Int) → Rat) : Option (Str → Int) → D
  | none => .non
  | some x => .tup [frD (v x), bkD ks x]
theorem best_turn0 (A B C q : D) (j4 : Option D) (h1 : rv (m_f_law_price [A, C]) = .ok q) : l_f_law_best_1 [some A, some B, some .non, some C, j4] = .ok (.nx, [some A, some B, some (.tup [q, C]), some C, some q]) := by
  unfold l_f_law_best_1
  simp [h1]
theorem best_turn1 (A B C q p E r s : D) (a b c : Bool) (j4 : Option D) (h1 : rv (m_f_law_price [A, C]) = .ok q) (h2 : rv (m_f_law_less [q, p]) = .ok (.bl a)) (h3 : eqD q p = .ok b) (h4 : rv (m_f_law_row [C]) = .ok r) (h5 : rv (m_f_law_row [E]) = .ok s) (h6 : ltP (fun p q => dataLt p q) r s = .ok c) :
    l_f_law_best_1 [some A, some B, some (.tup [p, E]), some C, j4] = .ok (.nx, [some A, some B, some (if (a || (b && c)) = true then .tup [q, C] else .tup [p, E]), some C, some q]) := by
  unfold l_f_law_best_1
  cases a
  · cases b
    · simp [h1, h2, h3]
    · cases c <;> simp [h1, h2, h3, h4, h5, h6]
  · simp [h1, h2]
theorem best_raw (A r : D) (L : List D) (j3 j4 : Option D) (h : forM (gSet 3) l_f_law_best_1 L [some A, some (.lst L), some .non, none, none] = .ok (.nx, [some A, some (.lst L), some r, j3, j4])) : rv (m_f_law_best [A, .lst L]) = .ok r := by
  unfold m_f_law_best
  rw [rv_fn]
  unfold b_f_law_best
  have h2 := (forA_lst (i := 1) (t := gSet 3) (b := l_f_law_best_1) (ρ := [some A, some (.lst L), some .non, none, none]) (ds := L) rfl).trans h
  simp [-ap_forA, h2]
theorem pick_fD (ks L : List Str) (v : (Str → Int) → Rat) (x y : Str → Int) : (if (decide (v x < v y) || (decide (v x = v y) && rowLt (L.map x) (L.map y))) = true then D.tup [frD (v x), bkD ks x] else .tup [frD (v y), bkD ks y]) = fD ks v (pickB v L (some y) x) := by
  show _ = fD ks v (if btr v L x y = true then some x else some y)
  unfold btr
  split <;> rfl
theorem price_Sx {S : List Str} {T : Str → Int} {E : List En} (h : Lst S T E) (hS : Names S) {x : Str → Int} (hx : InSp S T x) (hT : ∀ n ∈ S, T n ≤ 10 ^ 7) : Sx (2 ^ 40) (priceE S E x) := by
  obtain ⟨e, he, hi⟩ := h.has hx
  rw [h.price hx he hi]
  have ok := h.ok e he
  have hl : e.rs.length ≤ 3 := Nat.le_trans ok.rs.length_le hS.l3
  have h1 := rsum_Sx (l := e.rs) (x := x) (N := 10 ^ 7) ok.rS fun n hn => by
    have hnS := ok.rs.subset hn
    have := hx n hnS
    have := hT n hnS
    omega
  refine (ok.bS.add h1).mono ?_
  have : e.rs.length * (72 * 10 ^ 7) ≤ 3 * (72 * 10 ^ 7) := Nat.mul_le_mul_right _ hl
  omega
theorem best_ok {S : List Str} {T : Str → Int} {E : List En} (h : Lst S T E) (hS : Names S) {ks : List Str} (hp : ks.Perm S) (hT : ∀ n ∈ S, T n ≤ 10 ^ 7) {B : List (Str → Int)} (hB : ∀ x ∈ B, InSp S T x) :
    rv (m_f_law_best [.lst (E.map entD), .lst (B.map (bkD ks))]) = .ok (fD ks (priceE S E) (B.foldl (pickB (priceE S E) (strSort S)) none)) := by
  have hks : ∀ n ∈ S, n ∈ ks := fun n hn => hp.mem_iff.mpr hn
  have hl : ks.length < 64 := by have := hS.l3; rw [hp.length_eq]; omega
  have es : strSort ks = strSort S := strSort_congr hp
  obtain ⟨ρ', q1, j3, j4, q2, _⟩ := forM_map_inv (t := gSet 3) (b := l_f_law_best_1) (bkD ks) (fun k ρ => ∃ (j3 j4 : Option D), ρ = [some (.lst (E.map entD)), some (.lst (B.map (bkD ks))), some (fD ks (priceE S E) ((B.take k).foldl (pickB (priceE S E) (strSort S)) none)), j3, j4] ∧ ∀ y, (B.take k).foldl (pickB (priceE S E) (strSort S)) none = some y → InSp S T y) B
    [some (.lst (E.map entD)), some (.lst (B.map (bkD ks))), some .non, none, none] ⟨none, none, rfl, fun y e => by cases e⟩ fun k x ρ hk ⟨j3, j4, e, hy⟩ => by
      subst e
      have hxB := List.mem_of_getElem? hk
      have hx := hB x hxB
      have p1 := h.price_ok hS hks hx hT
      rw [take_succ' hk, List.foldl_append, List.foldl_cons, List.foldl_nil]
      generalize (B.take k).foldl (pickB (priceE S E) (strSort S)) none = o at hy
      cases o with
      | none => exact ⟨_, _, rfl, best_turn0 _ _ _ _ _ p1, _, _, rfl, fun y e => by cases e; exact hx⟩
      | some y =>
        have hy' := hy y rfl
        have l1 := llessS (price_Sx h hS hx hT) (price_Sx h hS hy' hT) (by decide) (by decide)
        have tn := best_turn1 (.lst (E.map entD)) (.lst (B.map (bkD ks))) (bkD ks x) (frD (priceE S E x)) (frD (priceE S E y)) (bkD ks y) _ _ _ _ _ j4 p1 l1 (eqFr _ _) (law_row_ok hl) (law_row_ok hl) (row_lt ks x y)
        rw [es] at tn
        rw [pick_fD] at tn
        refine ⟨_, _, rfl, tn, some (bkD ks x), some (frD (priceE S E x)), rfl, fun z e => ?_⟩
        unfold pickB at e
        dsimp only at e
        split at e
        · cases e; exact hx
        · cases e; exact hy'
  rw [List.take_length] at q2
  subst q2
  exact best_raw _ _ _ _ _ q1
end DL.G
namespace DL.G
open PySem PySem.Spec L2
open PySem.W (dataLt alike)
set_option autoImplicit false
/-! ### sums -/
theorem rsum_perm {l m : List Rat} (h : l.Perm m) : rsum l = rsum m := by
  induction h with
  | nil => rfl
  | cons a _ ih => show a + rsum _ = a + rsum _; rw [ih]
  | swap a b l => show b + (a + rsum l) = a + (b + rsum l); grind
  | trans _ _ h1 h2 => exact h1.trans h2
theorem sum_turn (A B C r : D) (j : Option D) (h : rv (m_plus [B, C]) = .ok r) : l_sum_of_1 [some A, some B, some C] = .ok (.nx, [some A, some r, some C]) := by
  unfold l_sum_of_1
  simp [h]
theorem sum_raw (L : List D) (r : D) (j : Option D) (h : forM (gSet 2) l_sum_of_1 L [some (.lst L), some (.tup [.int 0, .int 1]), none] = .ok (.nx, [some (.lst L), some r, j])) : rv (m_sum_of [.lst L]) = .ok r := by
  unfold m_sum_of
  rw [rv_fn]
  unfold b_sum_of
  have h2 := (forA_lst (i := 0) (t := gSet 2) (b := l_sum_of_1) (ρ := [some (.lst L), some (.tup [.int 0, .int 1]), none]) (ds := L) rfl).trans h
  simp [-ap_forA, h2]
theorem sum_ok {qs : List Rat} {M : Nat} (h : ∀ q ∈ qs, Sx M q) (hl : qs.length * M < 2 ^ 49) (hM : M < 2 ^ 49) : rv (m_sum_of [.lst (qs.map frD)]) = .ok (frD (rsum qs)) := by
  obtain ⟨ρ', q1, j, q2⟩ := forM_map_inv (t := gSet 2) (b := l_sum_of_1) frD (fun k ρ => ∃ j, ρ = [some (.lst (qs.map frD)), some (frD (rsum (qs.take k))), j]) qs [some (.lst (qs.map frD)), some (.tup [.int 0, .int 1]), none]
    ⟨none, by rw [frD0]; rfl⟩ fun k q ρ hk ⟨j, e⟩ => by
      subst e
      have hq := h q (List.mem_of_getElem? hk)
      have hs : ∀ l : List Rat, (∀ q ∈ l, Sx M q) → Sx (l.length * M) (rsum l) := fun l hl => by
        induction l with
        | nil => exact Sx.zero
        | cons a l ih =>
          refine ((hl a List.mem_cons_self).add (ih fun q hq => hl q (List.mem_cons_of_mem _ hq))).mono ?_
          rw [List.length_cons, Nat.add_mul, Nat.one_mul]; omega
      have h1 := hs (qs.take k) fun q hq => h q (List.mem_of_mem_take hq)
      have hb : (qs.take k).length * M < 2 ^ 50 := by
        have : (qs.take k).length * M ≤ qs.length * M := Nat.mul_le_mul_right _ (by rw [List.length_take]; omega)
        omega
      refine ⟨_, _, rfl, sum_turn _ _ _ _ j (plusS h1 hq hb (by omega)), some (frD q), ?_⟩
      rw [take_succ' hk, rsum_app]
      have : rsum [q] = q := by show q + 0 = q; grind
      rw [this]
  rw [List.take_length] at q2
  subst q2
  exact sum_raw _ _ _ q1
/-! ### risen -/
theorem risen_elem (A B C n c p d e : D) (h1 : ixD B n = .ok c) (h2 : ixD C n = .ok p) (h3 : rv (m_frac [p, .int 1]) = .ok d) (h4 : rv (m_times [c, d]) = .ok e) :
    eCall [none, none] m_times (eCons (e2 ixD (eVar 1) (eVar 3)) (eCons (eCall [none, none] m_frac (eCons (e2 ixD (eVar 2) (eVar 3)) (eCons (eRet (.int 1)) eNil))) eNil)) [some A, some B, some C, some n] = .ok (e, [some A, some B, some C, some n]) := by
  simp [h1, h2, h3, h4]
theorem risen_raw (A B C q r : D) (L M : List D) (h1 : sortedD B = .ok (.lst L)) (h2 : compM [3] (gSet 3) eYes (eCall [none, none] m_times (eCons (e2 ixD (eVar 1) (eVar 3)) (eCons (eCall [none, none] m_frac (eCons (e2 ixD (eVar 2) (eVar 3)) (eCons (eRet (.int 1)) eNil))) eNil))) L [some A, some B, some C, none] [] = .ok (M, [some A, some B, some C, none]))
    (h3 : rv (m_sum_of [.lst M]) = .ok q) (h4 : rv (m_plus [A, q]) = .ok r) : rv (m_risen [A, B, C]) = .ok r := by
  unfold m_risen
  rw [rv_fn]
  unfold b_risen
  simp [h1, wipeE, h2, restE, h3, h4]
theorem risen_ok {base : Rat} {rs ks : List Str} {r : Str → Rat} {x : Str → Int} (hl : rs.length ≤ 3) (hk : ∀ n ∈ rs, n ∈ ks) (hb : Sx 400 base) (hr : ∀ n, Sx 144 (r n)) (hx : ∀ n ∈ rs, (x n).natAbs ≤ 10 ^ 7) :
    rv (m_risen [frD base, riD rs r, bkD ks x]) = .ok (frD (base + rsum (rs.map fun n => r n * (x n : Rat)))) := by
  have hx' : ∀ n ∈ strSort rs, (x n).natAbs ≤ 10 ^ 7 := fun n hn => hx n (strSort_mem.mp hn)
  have hs : ∀ n ∈ strSort rs, Sx (144 * 10 ^ 7) (r n * (x n : Rat)) := fun n hn => (hr n).mulI (hx' n hn)
  have e1 : rsum (rs.map fun n => r n * (x n : Rat)) = rsum ((strSort rs).map fun n => r n * (x n : Rat)) := rsum_perm ((strSort_perm rs).symm.map _)
  rw [e1]
  have c := compM_all (vs := [3]) (t := gSet 3) (e := eCall [none, none] m_times (eCons (e2 ixD (eVar 1) (eVar 3)) (eCons (eCall [none, none] m_frac (eCons (e2 ixD (eVar 2) (eVar 3)) (eCons (eRet (.int 1)) eNil))) eNil))) (ρ0 := [some (frD base), some (riD rs r), some (bkD ks x), none]) D.str (fun n => frD (r n * (x n : Rat))) (strSort rs) (fun n hn => by
    have hn' := strSort_mem.mp hn
    refine ⟨[some (frD base), some (riD rs r), some (bkD ks x), some (.str n)], rfl, risen_elem _ _ _ _ _ _ _ _ (ix_dS hn') (ix_dS (hk n hn')) (frac1 _) (timesS (hr n) (by decide) ?_), rfl⟩
    have := hx n hn'
    omega) (by rw [strSort_len]; omega)
  have e2 : ((strSort rs).map fun n => frD (r n * (x n : Rat))) = ((strSort rs).map fun n => r n * (x n : Rat)).map frD := by rw [List.map_map]; rfl
  rw [e2] at c
  have hlen : ((strSort rs).map fun n => r n * (x n : Rat)).length ≤ 3 := by rw [List.length_map, strSort_len]; exact hl
  have hsum := sum_ok (qs := (strSort rs).map fun n => r n * (x n : Rat)) (M := 144 * 10 ^ 7) (fun q hq => by
    obtain ⟨n, hn, rfl⟩ := List.mem_map.mp hq
    exact hs n hn) (by
      have := Nat.mul_le_mul_right (144 * 10 ^ 7) hlen
      omega) (by decide)
  have hS := rsum_Sx (l := strSort rs) (r := r) (x := x) (M := 144) (N := 10 ^ 7) hr hx'
  have hS2 : Sx (3 * (144 * 10 ^ 7)) (rsum ((strSort rs).map fun n => r n * (x n : Rat))) := hS.mono (Nat.mul_le_mul_right _ (by rw [strSort_len]; exact hl))
  exact risen_raw _ _ _ _ _ _ _ (sorted_dS (by omega)) c hsum (plusS hb hS2 (by decide) (by decide))
/-! ### highest -/
def hiF (r : Str → Rat) (b : Bo) (n : Str) : Int := if 0 < r n then b.hi n else b.lo n
theorem high_elem (A B n c : D) (l h : Int) (k : Bool) (hB : isDic B = true) (h1 : getD2 B n (.tup [.int 0, .int 1]) = .ok c) (h2 : rv (m_less [.tup [.int 0, .int 1], c]) = .ok (.bl k)) (h3 : ixD A n = .ok (rgD l h)) :
    eIf (e1 gBl (eCall [none, none] m_less (eCons (eRet (.tup [.int 0, .int 1])) (eCons (eGet2 (eVar 1) (eVar 2) (eRet (.tup [.int 0, .int 1]))) eNil)))) (e2 ixD (e2 ixD (eVar 0) (eVar 2)) (eRet (.int 1))) (e2 ixD (e2 ixD (eVar 0) (eVar 2)) (eRet (.int 0))) [some A, some B, some n] = .ok (.int (if k = true then h else l), [some A, some B, some n]) := by
  unfold rgD at h3
  cases k <;> simp [hB, h1, h2, h3]
theorem high_raw (A B : D) (K : List (D × D)) (h : eDCompA [2] 0 (gSet 2) eYes (eVar 2) (eIf (e1 gBl (eCall [none, none] m_less (eCons (eRet (.tup [.int 0, .int 1])) (eCons (eGet2 (eVar 1) (eVar 2) (eRet (.tup [.int 0, .int 1]))) eNil)))) (e2 ixD (e2 ixD (eVar 0) (eVar 2)) (eRet (.int 1))) (e2 ixD (e2 ixD (eVar 0) (eVar 2)) (eRet (.int 0)))) [some A, some B, none] = .ok (.dic false K, [some A, some B, none])) : rv (m_highest [A, B]) = .ok (.dic false K) := by
  unfold m_highest
  rw [rv_fn]
  unfold b_highest
  have e : initEv 3 [A, B] = [some A, some B, none] := rfl
  rw [e, ap_seq, ap_sret, h]
theorem highest_ok {S rs : List Str} {r : Str → Rat} {b : Bo} (hn : S.Nodup) (hl : S.length < 1000) (hr : ∀ n, Sx 144 (r n)) (h0 : ∀ n, n ∉ rs → r n = 0) : rv (m_highest [bxD S b, riD rs r]) = .ok (bkD S (hiF r b)) := by
  refine high_raw _ _ (kvS S fun n => .int (hiF r b n)) ?_
  rw [dcompA_dS (ks := S) (f := fun n => rgD (b.lo n) (b.hi n)) rfl]
  have hd := dcomp_all (vs := [2]) (t := gSet 2) (ek := eVar 2) (e := eIf (e1 gBl (eCall [none, none] m_less (eCons (eRet (.tup [.int 0, .int 1])) (eCons (eGet2 (eVar 1) (eVar 2) (eRet (.tup [.int 0, .int 1]))) eNil)))) (e2 ixD (e2 ixD (eVar 0) (eVar 2)) (eRet (.int 1))) (e2 ixD (e2 ixD (eVar 0) (eVar 2)) (eRet (.int 0)))) (ρ0 := [some (bxD S b), some (riD rs r), none]) D.str (fun n => n) (fun n => .int (hiF r b n)) S [] (fun n hnS => by
    refine ⟨[some (bxD S b), some (riD rs r), some (.str n)], rfl, rfl, ?_, rfl⟩
    have h1 : getD2 (riD rs r) (.str n) (.tup [.int 0, .int 1]) = .ok (frD (r n)) := by
      unfold riD
      rw [get2_dS]
      by_cases c : n ∈ rs
      · rw [if_pos c]
      · rw [if_neg c, h0 n c, frD0]
    have h2 : rv (m_less [.tup [.int 0, .int 1], frD (r n)]) = .ok (.bl (decide (0 < r n))) := by
      rw [frD0]
      exact lessS (Sx.zero (N := 0)) (hr n) (by decide) (by decide)
    have := high_elem (bxD S b) (riD rs r) (.str n) _ (b.lo n) (b.hi n) _ rfl h1 h2 (ix_dS hnS)
    rw [this]
    unfold hiF
    by_cases c : 0 < r n
    · rw [if_pos c, if_pos (decide_eq_true c)]
    · rw [if_neg c, if_neg (by simpa using c)]) (by simpa using hn) (by simp; omega)
  rw [List.map_id', List.nil_append] at hd
  have e : wipeE [some (bxD S b), some (riD rs r), none] [2] = [some (bxD S b), some (riD rs r), none] := rfl
  rw [e]
  change dcompM _ _ _ _ _ _ _ [] = _ at hd
  rw [hd]
  rfl
end DL.G
namespace DL.G
open PySem PySem.Spec L2
open PySem.W (dataLt alike)
set_option autoImplicit false
/-! ### cheapest_cover -/
def needB (T need : Str → Int) : Bo := ⟨need, T⟩
/-- the cheapest basket of an entry's box that covers the need, and of these the first -/
def pickE (S : List Str) (T need : Str → Int) (e : En) : Option (Str → Int) := if bne S (bcap e.bx (needB T need)) = true then some (hiF (fun n => 0 - e.r n) (bcap e.bx (needB T need))) else none
abbrev negC : EM D := eDCompA [5] 9 (gSet 5) eYes (eVar 5) (eCall [none, none] m_minus (eCons (eRet (.tup [.int 0, .int 1])) (eCons (e2 ixD (eVar 9) (eVar 5)) eNil)))
theorem neg_elem (A B C F G BO BA RI SH n c d : D) (j6 j11 j12 : Option D) (h1 : ixD RI n = .ok c) (h2 : rv (m_minus [.tup [.int 0, .int 1], c]) = .ok d) :
    eCall [none, none] m_minus (eCons (eRet (.tup [.int 0, .int 1])) (eCons (e2 ixD (eVar 9) (eVar 5)) eNil)) [some A, some B, some C, some F, some G, some n, j6, some BO, some BA, some RI, some SH, j11, j12] = .ok (d, [some A, some B, some C, some F, some G, some n, j6, some BO, some BA, some RI, some SH, j11, j12]) := by
  simp [h1, h2]
theorem neg_ok {rs : List Str} {r : Str → Rat} (hn : rs.Nodup) (hl : rs.length < 1000) (hr : ∀ n, Sx 72 (r n)) (A B C F G BO BA SH : D) (j5 j6 j11 j12 : Option D) :
    negC [some A, some B, some C, some F, some G, j5, j6, some BO, some BA, some (riD rs r), some SH, j11, j12] = .ok (riD rs (fun n => 0 - r n), [some A, some B, some C, some F, some G, j5, j6, some BO, some BA, some (riD rs r), some SH, j11, j12]) := by
  unfold negC
  rw [dcompA_dS (ks := rs) (f := fun n => frD (r n)) rfl]
  have hd := dcomp_all (vs := [5]) (t := gSet 5) (ek := eVar 5) (e := eCall [none, none] m_minus (eCons (eRet (.tup [.int 0, .int 1])) (eCons (e2 ixD (eVar 9) (eVar 5)) eNil))) (ρ0 := [some A, some B, some C, some F, some G, none, j6, some BO, some BA, some (riD rs r), some SH, j11, j12]) D.str (fun n => n) (fun n => frD (0 - r n)) rs [] (fun n hn => by
    refine ⟨[some A, some B, some C, some F, some G, some (.str n), j6, some BO, some BA, some (riD rs r), some SH, j11, j12], rfl, rfl, neg_elem _ _ _ _ _ _ _ _ _ _ _ _ _ _ _ (ix_dS hn) ?_, rfl⟩
    rw [frD0]
    exact minusS (Sx.zero (N := 0)) (hr n) (by decide) (by decide)) (by simpa using hn) (by simp; omega)
  rw [List.map_id', List.nil_append] at hd
  have e : wipeE [some A, some B, some C, some F, some G, j5, j6, some BO, some BA, some (riD rs r), some SH, j11, j12] [5] = [some A, some B, some C, some F, some G, none, j6, some BO, some BA, some (riD rs r), some SH, j11, j12] := rfl
  rw [e]
  change dcompM _ _ _ _ _ _ _ [] = _ at hd
  rw [hd]
  rfl
theorem cc_none (A B C F G BO BA RI : D) (j5 j6 j10 j11 j12 : Option D) (h1 : rv (m_common [A, BO, G]) = .ok .non) : l_cheapest_cover_1 [some A, some B, some C, some F, some G, j5, j6, some BO, some BA, some RI, j10, j11, j12] = .ok (.nx, [some A, some B, some C, some F, some G, j5, j6, some BO, some BA, some RI, some .non, j11, j12]) := by
  unfold l_cheapest_cover_1
  simp [-ap_dcompA, h1]
theorem cc_first (A B C G BO BA RI SH NR BK q : D) (j5 j6 j10 j11 j12 : Option D) (h1 : rv (m_common [A, BO, G]) = .ok SH) (h2 : isNotC SH .non = .ok true) (h3 : negC [some A, some B, some C, some .non, some G, j5, j6, some BO, some BA, some RI, some SH, j11, j12] = .ok (NR, [some A, some B, some C, some .non, some G, j5, j6, some BO, some BA, some RI, some SH, j11, j12]))
    (h4 : rv (m_highest [SH, NR]) = .ok BK) (h5 : rv (m_risen [BA, RI, BK]) = .ok q) : l_cheapest_cover_1 [some A, some B, some C, some .non, some G, j5, j6, some BO, some BA, some RI, j10, j11, j12] = .ok (.nx, [some A, some B, some C, some (.tup [q, BK]), some G, j5, j6, some BO, some BA, some RI, some SH, some BK, some q]) := by
  unfold l_cheapest_cover_1
  unfold negC at h3
  simp [-ap_dcompA, h1, h2, h3, h4, h5]
theorem cc_next (A B C G BO BA RI SH NR BK q p E r s : D) (a b c : Bool) (j5 j6 j10 j11 j12 : Option D) (h1 : rv (m_common [A, BO, G]) = .ok SH) (h2 : isNotC SH .non = .ok true) (h3 : negC [some A, some B, some C, some (.tup [p, E]), some G, j5, j6, some BO, some BA, some RI, some SH, j11, j12] = .ok (NR, [some A, some B, some C, some (.tup [p, E]), some G, j5, j6, some BO, some BA, some RI, some SH, j11, j12]))
    (h4 : rv (m_highest [SH, NR]) = .ok BK) (h5 : rv (m_risen [BA, RI, BK]) = .ok q) (h6 : rv (m_less [q, p]) = .ok (.bl a)) (h7 : eqD q p = .ok b) (h8 : rv (m_in_row [BK]) = .ok r) (h9 : rv (m_in_row [E]) = .ok s) (h10 : ltP (fun p q => dataLt p q) r s = .ok c) :
    l_cheapest_cover_1 [some A, some B, some C, some (.tup [p, E]), some G, j5, j6, some BO, some BA, some RI, j10, j11, j12] = .ok (.nx, [some A, some B, some C, some (if (a || (b && c)) = true then .tup [q, BK] else .tup [p, E]), some G, j5, j6, some BO, some BA, some RI, some SH, some BK, some q]) := by
  unfold l_cheapest_cover_1
  unfold negC at h3
  cases a
  · cases b
    · simp [-ap_dcompA, h1, h2, h3, h4, h5, h6, h7]
    · cases c <;> simp [-ap_dcompA, h1, h2, h3, h4, h5, h6, h7, h8, h9, h10]
  · simp [-ap_dcompA, h1, h2, h3, h4, h5, h6]
abbrev fromC : EM D := eDCompA [5, 6] 0 (gTupT 2 (gsCons (gSet 5) (gsCons (gSet 6) gsNil))) eYes (eVar 5) (eL gTup (eCons (e2 ixD (eVar 2) (eVar 5)) (eCons (eVar 6) eNil)))
theorem from_elem (A B C n x t : D) (h : ixD C n = .ok x) : eL gTup (eCons (e2 ixD (eVar 2) (eVar 5)) (eCons (eVar 6) eNil)) [some A, some B, some C, some .non, none, some n, some t, none, none, none, none, none, none] = .ok (.tup [x, t], [some A, some B, some C, some .non, none, some n, some t, none, none, none, none, none, none]) := by
  simp [h]
theorem cc_raw (A B C G r : D) (L : List D) (j5 j6 j7 j8 j9 j10 j11 j12 : Option D) (h1 : fromC [some A, some (.lst L), some C, some .non, none, none, none, none, none, none, none, none, none] = .ok (G, [some A, some (.lst L), some C, some .non, none, none, none, none, none, none, none, none, none]))
    (h2 : forM (gTupT 3 (gsCons (gSet 7) (gsCons (gSet 8) (gsCons (gSet 9) gsNil)))) l_cheapest_cover_1 L [some A, some (.lst L), some C, some .non, some G, none, none, none, none, none, none, none, none] = .ok (.nx, [some A, some (.lst L), some C, some r, some G, j5, j6, j7, j8, j9, j10, j11, j12])) : rv (m_cheapest_cover [A, .lst L, C]) = .ok r := by
  unfold m_cheapest_cover
  rw [rv_fn]
  unfold b_cheapest_cover
  unfold fromC at h1
  have h3 := (forA_lst (i := 1) (t := gTupT 3 (gsCons (gSet 7) (gsCons (gSet 8) (gsCons (gSet 9) gsNil)))) (b := l_cheapest_cover_1) (ρ := [some A, some (.lst L), some C, some .non, some G, none, none, none, none, none, none, none, none]) (ds := L) rfl).trans h2
  simp [-ap_forA, -ap_dcompA, h1, h3]
theorem hiF_in {S : List Str} {r : Str → Rat} {b : Bo} (h : bne S b = true) : ∀ n ∈ S, b.lo n ≤ hiF r b n ∧ hiF r b n ≤ b.hi n := fun n hn => by
  have := of_decide_eq_true (List.all_eq_true.mp h n hn)
  unfold hiF
  split <;> omega
theorem pickE_spec {S : List Str} {T need : Str → Int} {e : En} {x : Str → Int} (h : pickE S T need e = some x) : (∀ n ∈ S, need n ≤ x n ∧ x n ≤ T n) ∧ inB S x e.bx = true := by
  unfold pickE at h
  split at h
  · rename_i hb
    cases h
    have := hiF_in (r := fun n => 0 - e.r n) hb
    refine ⟨fun n hn => ?_, inB_iff.mpr fun n hn => ?_⟩
    · obtain ⟨h1, h2⟩ := this n hn
      have e1 : (bcap e.bx (needB T need)).lo n = max (e.bx.lo n) (need n) := rfl
      have e2 : (bcap e.bx (needB T need)).hi n = min (e.bx.hi n) (T n) := rfl
      rw [e1] at h1
      rw [e2] at h2
      omega
    · obtain ⟨h1, h2⟩ := this n hn
      have e1 : (bcap e.bx (needB T need)).lo n = max (e.bx.lo n) (need n) := rfl
      have e2 : (bcap e.bx (needB T need)).hi n = min (e.bx.hi n) (T n) := rfl
      rw [e1] at h1
      rw [e2] at h2
      omega
  · cases h
theorem filterMap_snoc {α β : Type} {f : α → Option β} {l : List α} {k : Nat} {x : α} (h : l[k]? = some x) : (l.take (k + 1)).filterMap f = (l.take k).filterMap f ++ (f x).toList := by
  rw [take_succ' h, List.filterMap_append]
  congr 1
theorem cheapest_ok {S : List Str} {T : Str → Int} {E : List En} (h : Lst S T E) (hS : Names S) (hT : ∀ n ∈ S, T n ≤ 10 ^ 7) {need : Str → Int} (hn : InSp S T need) {ks : List Str} (hks : ∀ n ∈ S, n ∈ ks) :
    rv (m_cheapest_cover [spD S T, .lst (E.map entD), bkD ks need]) = .ok (fD S (priceE S E) ((E.filterMap (pickE S T need)).foldl (pickB (priceE S E) (strSort S)) none)) := by
  have hl3 := hS.l3
  have hfrom : fromC [some (spD S T), some (.lst (E.map entD)), some (bkD ks need), some .non, none, none, none, none, none, none, none, none, none] = .ok (bxD S (needB T need), [some (spD S T), some (.lst (E.map entD)), some (bkD ks need), some .non, none, none, none, none, none, none, none, none, none]) := by
    unfold fromC
    rw [dcompA_lst (ds := S.map (tupS fun n => .int (T n))) rfl]
    have hd := dcomp_all (vs := [5, 6]) (t := gTupT 2 (gsCons (gSet 5) (gsCons (gSet 6) gsNil))) (ek := eVar 5) (e := eL gTup (eCons (e2 ixD (eVar 2) (eVar 5)) (eCons (eVar 6) eNil))) (ρ0 := [some (spD S T), some (.lst (E.map entD)), some (bkD ks need), some .non, none, none, none, none, none, none, none, none, none]) (tupS fun n => .int (T n)) (fun n => n) (fun n => rgD (need n) (T n)) S [] (fun n hnS =>
      ⟨[some (spD S T), some (.lst (E.map entD)), some (bkD ks need), some .non, none, some (.str n), some (.int (T n)), none, none, none, none, none, none], rfl, rfl, from_elem _ _ _ _ _ _ (ix_dS (hks n hnS)), rfl⟩) (by simpa using hS.nd) (by simp; omega)
    rw [List.map_id', List.nil_append] at hd
    change dcompM _ _ _ _ _ _ _ [] = _ at hd
    have e : wipeE [some (spD S T), some (.lst (E.map entD)), some (bkD ks need), some .non, none, none, none, none, none, none, none, none, none] [5, 6] = [some (spD S T), some (.lst (E.map entD)), some (bkD ks need), some .non, none, none, none, none, none, none, none, none, none] := rfl
    rw [e, hd]
    rfl
  obtain ⟨ρ', q1, j5, j6, j7, j8, j9, j10, j11, j12, q2, _⟩ := forM_map_inv (t := gTupT 3 (gsCons (gSet 7) (gsCons (gSet 8) (gsCons (gSet 9) gsNil)))) (b := l_cheapest_cover_1) entD
    (fun k ρ => ∃ (j5 j6 j7 j8 j9 j10 j11 j12 : Option D), ρ = [some (spD S T), some (.lst (E.map entD)), some (bkD ks need), some (fD S (priceE S E) (((E.take k).filterMap (pickE S T need)).foldl (pickB (priceE S E) (strSort S)) none)), some (bxD S (needB T need)), j5, j6, j7, j8, j9, j10, j11, j12] ∧
      ∀ y, ((E.take k).filterMap (pickE S T need)).foldl (pickB (priceE S E) (strSort S)) none = some y → InSp S T y) E
    [some (spD S T), some (.lst (E.map entD)), some (bkD ks need), some .non, some (bxD S (needB T need)), none, none, none, none, none, none, none, none] ⟨none, none, none, none, none, none, none, none, rfl, fun y e => by cases e⟩ fun k e ρ hk ⟨j5, j6, j7, j8, j9, j10, j11, j12, eρ, hy⟩ => by
      subst eρ
      have he := List.mem_of_getElem? hk
      have ok := h.ok e he
      have c1 := common_ok (S := S) (T := T) (K := e.ks) (L := S) (b := e.bx) (c := needB T need) hS.nd (by omega) ok.wh (fun n a b => absurd a b)
      rw [filterMap_snoc hk, List.foldl_append]
      refine ⟨[some (spD S T), some (.lst (E.map entD)), some (bkD ks need), some (fD S (priceE S E) (((E.take k).filterMap (pickE S T need)).foldl (pickB (priceE S E) (strSort S)) none)), some (bxD S (needB T need)), j5, j6, some (shD e.ks e.bx), some (frD e.base), some (riD e.rs e.r), j10, j11, j12], ?_⟩
      generalize ((E.take k).filterMap (pickE S T need)).foldl (pickB (priceE S E) (strSort S)) none = o at hy
      cases hp : pickE S T need e with
      | none =>
        have hb : ¬ bne S (bcap e.bx (needB T need)) = true := fun z => by
          unfold pickE at hp
          rw [if_pos z] at hp
          cases hp
        rw [if_neg hb] at c1
        exact ⟨_, rfl, cc_none _ _ _ _ _ _ _ _ _ _ _ _ _ c1, _, _, _, _, _, _, _, _, rfl, hy⟩
      | some x =>
        have hb : bne S (bcap e.bx (needB T need)) = true := by
          cases z : bne S (bcap e.bx (needB T need)) with
          | true => rfl
          | false =>
            unfold pickE at hp
            rw [if_neg (by rw [z]; exact Bool.false_ne_true)] at hp
            cases hp
        have hx : x = hiF (fun n => 0 - e.r n) (bcap e.bx (needB T need)) := by
          unfold pickE at hp
          rw [if_pos hb] at hp
          exact (Option.some.inj hp).symm
        rw [if_pos hb] at c1
        obtain ⟨px, pb⟩ := pickE_spec hp
        have hxS : InSp S T x := fun n hnS => by have := px n hnS; have := hn n hnS; omega
        have rl : e.rs.length ≤ 3 := Nat.le_trans ok.rs.length_le hl3
        have rnd : e.rs.Nodup := hS.nd.sublist ok.rs
        have hng : ∀ n, Sx 144 (0 - e.r n) := fun n => ((Sx.zero (N := 0)).sub (ok.rS n)).mono (by decide)
        have c4 := highest_ok (S := S) (rs := e.rs) (r := fun n => 0 - e.r n) (b := bcap e.bx (needB T need)) hS.nd (by omega) hng (fun n z => by rw [ok.r0 n z]; grind)
        rw [← hx] at c4
        have c5 := risen_ok (base := e.base) (rs := e.rs) (ks := S) (r := e.r) (x := x) rl (fun n z => ok.rs.subset z) (ok.bS.mono (by decide)) (fun n => (ok.rS n).mono (by decide)) (fun n z => by
          have hnS := ok.rs.subset z
          have := hxS n hnS
          have := hT n hnS
          omega)
        have ep : e.base + rsum (e.rs.map fun n => e.r n * (x n : Rat)) = priceE S E x := (h.price hxS he pb).symm
        rw [ep] at c5
        have c3 := fun F j11 j12 => neg_ok (rs := e.rs) (r := e.r) rnd (by omega) ok.rS (spD S T) (.lst (E.map entD)) (bkD ks need) F (bxD S (needB T need)) (shD e.ks e.bx) (frD e.base) (bxD S (bcap e.bx (needB T need))) j5 j6 j11 j12
        show ∃ ρ2, _ ∧ _ ∧ ∃ j5 j6 j7 j8 j9 j10 j11 j12, ρ2 = [_, _, _, some (fD S (priceE S E) (pickB (priceE S E) (strSort S) o x)), _, j5, j6, j7, j8, j9, j10, j11, j12] ∧ ∀ y, pickB (priceE S E) (strSort S) o x = some y → InSp S T y
        cases o with
        | none => exact ⟨_, rfl, cc_first _ _ _ _ _ _ _ _ _ _ _ _ _ _ _ _ c1 (isNotC_dS _ _) (c3 _ _ _) c4 c5, _, _, _, _, _, _, _, _, rfl, fun y z => by cases z; exact hxS⟩
        | some y =>
          have hyS := hy y rfl
          have l1 := lessS (price_Sx h hS hxS hT) (price_Sx h hS hyS hT) (by decide) (by decide)
          have tn := cc_next (spD S T) (.lst (E.map entD)) (bkD ks need) (bxD S (needB T need)) (shD e.ks e.bx) (frD e.base) (riD e.rs e.r) _ _ (bkD S x) (frD (priceE S E x)) (frD (priceE S E y)) (bkD S y) _ _ _ _ _ j5 j6 j10 j11 j12 c1 (isNotC_dS _ _) (c3 _ _ _) c4 c5 l1 (eqFr _ _) (in_row_ok (by omega)) (in_row_ok (by omega)) (row_lt S x y)
          rw [pick_fD] at tn
          refine ⟨_, rfl, tn, j5, j6, _, _, _, _, _, _, rfl, fun z ez => ?_⟩
          unfold pickB at ez
          dsimp only at ez
          split at ez
          · cases ez; exact hxS
          · cases ez; exact hyS
  rw [List.take_length] at q2
  subst q2
  exact cc_raw _ (.lst []) _ _ _ _ _ _ _ _ _ _ _ _ hfrom q1
end DL.G
namespace DL.G
open PySem PySem.Spec L2
open PySem.W (dataLt alike)
set_option autoImplicit false
/-! ### the pick is the best of its box -/
theorem rsum_le {l : List Str} {f g : Str → Rat} (h : ∀ n ∈ l, f n ≤ g n) : rsum (l.map f) ≤ rsum (l.map g) := by
  induction l with
  | nil => show (0 : Rat) ≤ 0; grind
  | cons n l ih =>
    have h1 := h n List.mem_cons_self
    have h2 := ih fun m hm => h m (List.mem_cons_of_mem _ hm)
    show f n + rsum (l.map f) ≤ g n + rsum (l.map g)
    grind
theorem rsum_eq {l : List Str} {f g : Str → Rat} (h : ∀ n ∈ l, f n ≤ g n) (e : rsum (l.map f) = rsum (l.map g)) : ∀ n ∈ l, f n = g n := by
  induction l with
  | nil => intro n hn; cases hn
  | cons m l ih =>
    have h1 := h m List.mem_cons_self
    have h2 := rsum_le fun k hk => h k (List.mem_cons_of_mem m hk)
    have e' : f m + rsum (l.map f) = g m + rsum (l.map g) := e
    have e1 : f m = g m := by grind
    have e2 : rsum (l.map f) = rsum (l.map g) := by grind
    intro n hn
    rcases List.mem_cons.mp hn with z | hn
    · rw [z]; exact e1
    · exact ih (fun k hk => h k (List.mem_cons_of_mem _ hk)) e2 n hn
theorem mul_mono {r : Rat} {a b : Int} (h : (0 ≤ r ∧ a ≤ b) ∨ (r ≤ 0 ∧ b ≤ a)) : r * (a : Rat) ≤ r * (b : Rat) := by
  have cl : ∀ {a b : Int}, a ≤ b → (a : Rat) ≤ (b : Rat) := fun h => by exact_mod_cast h
  rcases h with ⟨h1, h2⟩ | ⟨h1, h2⟩
  · exact Rat.mul_le_mul_of_nonneg_left (cl h2) h1
  · have := Rat.mul_le_mul_of_nonneg_left (cl h2) (show (0 : Rat) ≤ -r by grind)
    grind
theorem mul_cancel {r : Rat} {a b : Int} (h0 : r ≠ 0) (h : r * (a : Rat) = r * (b : Rat)) : a = b := by
  have h2 : r * ((a : Rat) - (b : Rat)) = 0 := by grind
  have h3 : (a : Rat) - (b : Rat) = 0 := by
    rcases Rat.mul_eq_zero.mp h2 with z | z
    · exact absurd z h0
    · exact z
  have h4 : (a : Rat) = (b : Rat) := by grind
  exact_mod_cast h4
theorem price_congr {S : List Str} {T : Str → Int} {E : List En} (h : Lst S T E) {x y : Str → Int} (e : ∀ n ∈ S, x n = y n) : priceE S E x = priceE S E y := by
  have ei : ∀ b : Bo, inB S x b = inB S y b := fun b => by
    cases z : inB S y b with
    | true =>
      have := inB_iff.mp z
      exact inB_iff.mpr fun n hn => by rw [e n hn]; exact this n hn
    | false =>
      cases z2 : inB S x b with
      | false => rfl
      | true =>
        have := inB_iff.mp z2
        have : inB S y b = true := inB_iff.mpr fun n hn => by rw [← e n hn]; exact this n hn
        rw [z] at this
        cases this
  unfold priceE
  have ef : (E.find? fun e => inB S x e.bx) = E.find? fun e => inB S y e.bx := by
    congr 1
    funext e
    exact ei e.bx
  rw [ef]
  cases q : E.find? fun e => inB S y e.bx with
  | none => rfl
  | some e' =>
    have he := List.mem_of_find?_eq_some q
    have ok := h.ok e' he
    show e'.val x = e'.val y
    unfold En.val
    congr 2
    apply List.map_congr_left
    intro n hn
    rw [e n (ok.rs.subset hn)]
theorem pick_best {S : List Str} {T : Str → Int} {E : List En} (h : Lst S T E) {need y : Str → Int} {e : En} (he : e ∈ E) (hy : InSp S T y) (hn : ∀ n ∈ S, 0 ≤ need n ∧ need n ≤ y n) (hb : inB S y e.bx = true) :
    ∃ x, pickE S T need e = some x ∧ btr (priceE S E) (strSort S) y x = false ∧ priceE S E x ≤ priceE S E y := by
  have ok := h.ok e he
  have yb := inB_iff.mp hb
  have hne : bne S (bcap e.bx (needB T need)) = true := List.all_eq_true.mpr fun n hnS => decide_eq_true (by
    have := yb n hnS
    have := hn n hnS
    have := hy n hnS
    show max (e.bx.lo n) (need n) ≤ min (e.bx.hi n) (T n)
    omega)
  refine ⟨hiF (fun n => 0 - e.r n) (bcap e.bx (needB T need)), if_pos hne, ?_⟩
  have hp : pickE S T need e = some (hiF (fun n => 0 - e.r n) (bcap e.bx (needB T need))) := if_pos hne
  obtain ⟨px, pb⟩ := pickE_spec hp
  generalize hx : hiF (fun n => 0 - e.r n) (bcap e.bx (needB T need)) = x at *
  have xS : InSp S T x := fun n hnS => by have := px n hnS; have := hn n hnS; omega
  have vx := h.price xS he pb
  have vy := h.price hy he hb
  have cases3 : ∀ n ∈ S, (0 < 0 - e.r n ∧ y n ≤ x n) ∨ (¬ 0 < 0 - e.r n ∧ x n ≤ y n) := fun n hnS => by
    have h1 := yb n hnS
    have h2 := hn n hnS
    have h3 := hy n hnS
    rw [← hx]
    unfold hiF
    by_cases c : 0 < 0 - e.r n
    · refine .inl ⟨c, ?_⟩
      rw [if_pos c]
      show y n ≤ min (e.bx.hi n) (T n)
      omega
    · refine .inr ⟨c, ?_⟩
      rw [if_neg c]
      show max (e.bx.lo n) (need n) ≤ y n
      omega
  have term : ∀ n ∈ e.rs, e.r n * (x n : Rat) ≤ e.r n * (y n : Rat) := fun n hnr => by
    rcases cases3 n (ok.rs.subset hnr) with ⟨c1, c2⟩ | ⟨c1, c2⟩
    · exact mul_mono (.inr ⟨by grind, c2⟩)
    · exact mul_mono (.inl ⟨by grind, c2⟩)
  have sl := rsum_le term
  have vle : priceE S E x ≤ priceE S E y := by
    rw [vx, vy]
    unfold En.val
    grind
  refine ⟨?_, vle⟩
  unfold btr
  rw [Bool.or_eq_false_iff, Bool.and_eq_false_iff, decide_eq_false_iff_not]
  refine ⟨by grind, ?_⟩
  by_cases ev : priceE S E y = priceE S E x
  · right
    have es : rsum (e.rs.map fun n => e.r n * (x n : Rat)) = rsum (e.rs.map fun n => e.r n * (y n : Rat)) := by
      rw [vx, vy] at ev
      unfold En.val at ev
      grind
    have te := rsum_eq term es
    refine rowLt_ge fun n hnL => ?_
    have hnS := strSort_mem.mp hnL
    rcases cases3 n hnS with ⟨c1, c2⟩ | ⟨c1, c2⟩
    · have r0 : e.r n ≠ 0 := by grind
      have hnr : n ∈ e.rs := Classical.byContradiction fun z => r0 (ok.r0 n z)
      have := mul_cancel r0 (te n hnr)
      omega
    · exact c2
  · left
    exact decide_eq_false ev
theorem same_fr (n : Nat) (q : Rat) : rv (m_f_law_same (n + 2) [frD q, frD q]) = .ok (.bl true) := same_pair (same_int n _) (same_int n _)
theorem same_fD {S : List Str} (hS : Names S) {v : (Str → Int) → Rat} {p q : Str → Int} (e1 : v p = v q) (e2 : (strSort S).map p = (strSort S).map q) : rv (m_f_law_same 8 [fD S v (some p), fD (strSort S) v (some q)]) = .ok (.bl true) := by
  have e3 : ∀ n ∈ strSort S, p n = q n := fun n hn => by
    have := List.map_inj_left.mp e2
    exact this n hn
  show rv (m_f_law_same (7 + 1) [.tup [frD (v p), bkD S p], .tup [frD (v q), bkD (strSort S) q]]) = _
  refine same_pair (by rw [e1]; exact same_fr 5 _) ?_
  refine same_dS (n := 6) (by rw [strSort_len]) fun k hk => ⟨strSort_mem.mp hk, ?_⟩
  rw [e3 k hk]
  exact same_int 5 _
/-- what cheapest_cover finds is what the law finds -/
theorem cover_same {S : List Str} {T : Str → Int} {E : List En} (h : Lst S T E) (hS : Names S) {need : Str → Int} (hn : InSp S T need) {B : List (Str → Int)} (hB : ∀ b ∈ B, InSp S T b ∧ ∀ n ∈ S, need n ≤ b n) (hA : ∀ e ∈ E, ∀ x, pickE S T need e = some x → ∃ b ∈ B, ∀ n ∈ S, b n = x n) :
    rv (m_f_law_same 8 [fD S (priceE S E) ((E.filterMap (pickE S T need)).foldl (pickB (priceE S E) (strSort S)) none), fD (strSort S) (priceE S E) (B.foldl (pickB (priceE S E) (strSort S)) none)]) = .ok (.bl true) ∧
    ∃ p, (E.filterMap (pickE S T need)).foldl (pickB (priceE S E) (strSort S)) none = some p := by
  have nonempty : E.filterMap (pickE S T need) ≠ [] := by
    obtain ⟨e, he, hb⟩ := h.has hn
    obtain ⟨x, hx, _⟩ := pick_best h he hn (fun n hnS => ⟨(hn n hnS).1, Int.le_refl _⟩) hb
    exact List.ne_nil_of_mem (List.mem_filterMap.mpr ⟨e, he, hx⟩)
  obtain ⟨p, q, p1, q1, p2, q2, e1, e2⟩ := same_best (v := priceE S E) (L := strSort S) nonempty (B := B) (fun a ha => by
    obtain ⟨e, he, hx⟩ := List.mem_filterMap.mp ha
    obtain ⟨b, hb, eq⟩ := hA e he a hx
    refine ⟨b, hb, ?_⟩
    have ev : priceE S E a = priceE S E b := price_congr h fun n hnS => (eq n hnS).symm
    have er : (strSort S).map a = (strSort S).map b := List.map_congr_left fun n hnL => (eq n (strSort_mem.mp hnL)).symm
    unfold btr
    rw [ev, er, rowLt_irrefl]
    simp) (fun b hb => by
    obtain ⟨bS, bn⟩ := hB b hb
    obtain ⟨e, he, hi⟩ := h.has bS
    obtain ⟨x, hx, hbt, _⟩ := pick_best h he bS (fun n hnS => ⟨(hn n hnS).1, bn n hnS⟩) hi
    exact ⟨x, List.mem_filterMap.mpr ⟨e, he, hx⟩, hbt⟩)
  rw [p1, q1]
  exact ⟨same_fD hS e1 e2, p, rfl⟩
/-- the price that cheapest_cover tells is the least -/
theorem cover_least {S : List Str} {T : Str → Int} {E : List En} (h : Lst S T E) {need : Str → Int} (hn : InSp S T need) :
    ∃ p, (E.filterMap (pickE S T need)).foldl (pickB (priceE S E) (strSort S)) none = some p ∧ (∀ n ∈ S, need n ≤ p n ∧ p n ≤ T n) ∧ ∀ y, InSp S T y → (∀ n ∈ S, need n ≤ y n) → priceE S E p ≤ priceE S E y := by
  rcases pickB_spec (v := priceE S E) (L := strSort S) (E.filterMap (pickE S T need)) none with ⟨e, _⟩ | ⟨p, p1, p2, p3, _⟩
  · obtain ⟨e', he, hb⟩ := h.has hn
    obtain ⟨x, hx, _⟩ := pick_best h he hn (fun n hnS => ⟨(hn n hnS).1, Int.le_refl _⟩) hb
    have : x ∈ E.filterMap (pickE S T need) := List.mem_filterMap.mpr ⟨e', he, hx⟩
    rw [e] at this
    cases this
  · obtain ⟨e, he, hp⟩ := List.mem_filterMap.mp (p2.resolve_right (by simp))
    refine ⟨p, p1, (pickE_spec hp).1, fun y hy hny => ?_⟩
    obtain ⟨e2, he2, hb⟩ := h.has hy
    obtain ⟨x, hx, _, hle⟩ := pick_best h he2 hy (fun n hnS => ⟨(hn n hnS).1, hny n hnS⟩) hb
    have := p3 x (List.mem_filterMap.mpr ⟨e2, he2, hx⟩)
    unfold btr at this
    rw [Bool.or_eq_false_iff, decide_eq_false_iff_not] at this
    have h1 := this.1
    grind
end DL.G
namespace DL.G
open PySem PySem.Spec L2
set_option autoImplicit false
/-! ### corners -/
def plc (lo hi : Int) : List Int := if lo < hi then [lo, hi] else [lo]
def cStep (n : Str) (lo hi : Int) (x : Str → Int) : List (Str → Int) := (plc lo hi).map fun p => setF x n p
def cOne (b : Bo) (X : List (Str → Int)) (n : Str) : List (Str → Int) := if b.lo n ≤ b.hi n then X.flatMap (cStep n (b.lo n) (b.hi n)) else []
def cAll (L : List Str) (b : Bo) : List (Str → Int) := L.foldl (cOne b) [fun _ => 0]
theorem cStep_len (n : Str) (lo hi : Int) (x : Str → Int) : (cStep n lo hi x).length ≤ 2 := by
  unfold cStep plc
  rw [List.length_map]
  split <;> simp
theorem cFlat_len (n : Str) (lo hi : Int) (X : List (Str → Int)) : (X.flatMap (cStep n lo hi)).length ≤ X.length * 2 := by
  induction X with
  | nil => simp
  | cons x X ih =>
    rw [List.flatMap_cons, List.length_append, List.length_cons]
    have := cStep_len n lo hi x
    omega
theorem cAll_snoc (L : List Str) (n : Str) (b : Bo) : cAll (L ++ [n]) b = cOne b (cAll L b) n := by
  unfold cAll
  rw [List.foldl_append]
  rfl
theorem cAll_len (b : Bo) : ∀ L : List Str, (cAll L b).length ≤ 2 ^ L.length := fun L => by
  induction L using snoc_ind with
  | h0 => exact Nat.le_refl 1
  | h1 l n ih =>
    rw [cAll_snoc, List.length_append, Nat.pow_add]
    show _ ≤ 2 ^ l.length * 2
    unfold cOne
    split
    · have := cFlat_len n (b.lo n) (b.hi n) (cAll l b)
      omega
    · simp
theorem cAll_mem {b : Bo} : ∀ L : List Str, L.Nodup → ∀ x, x ∈ cAll L b ↔ (∀ n ∈ L, b.lo n ≤ b.hi n ∧ (x n = b.lo n ∨ x n = b.hi n)) ∧ ∀ m, m ∉ L → x m = 0 := fun L => by
  induction L using snoc_ind with
  | h0 =>
    intro _ x
    show x ∈ [fun _ => 0] ↔ _
    rw [List.mem_singleton]
    constructor
    · intro e; subst e; exact ⟨by simp, fun _ _ => rfl⟩
    · rintro ⟨_, h⟩
      funext m
      exact h m (by simp)
  | h1 l n ih =>
    intro hn x
    obtain ⟨n1, _, n3⟩ := List.nodup_append.mp hn
    have nl : n ∉ l := fun z => n3 n z n (by simp) rfl
    rw [cAll_snoc]
    unfold cOne
    constructor
    · intro hx
      split at hx
      · rename_i hle
        obtain ⟨y, hy, hxy⟩ := List.mem_flatMap.mp hx
        obtain ⟨h1, h2⟩ := (ih n1 y).mp hy
        unfold cStep at hxy
        obtain ⟨p, hp, rfl⟩ := List.mem_map.mp hxy
        have hp' : p = b.lo n ∨ p = b.hi n := by
          unfold plc at hp
          split at hp <;> simp at hp
          · exact hp
          · exact .inl hp
        refine ⟨fun m hm => ?_, fun m hm => ?_⟩
        · rcases List.mem_append.mp hm with hm | hm
          · have : ¬ m = n := fun e => nl (e ▸ hm)
            unfold setF
            rw [if_neg this]
            exact h1 m hm
          · cases List.mem_singleton.mp hm
            refine ⟨hle, ?_⟩
            unfold setF
            rw [if_pos rfl]
            exact hp'
        · have h3 : ¬ m = n := fun e => hm (by rw [e]; simp)
          unfold setF
          rw [if_neg h3]
          exact h2 m fun z => hm (List.mem_append_left _ z)
      · cases hx
    · rintro ⟨h1, h2⟩
      obtain ⟨hle, hc⟩ := h1 n (by simp)
      rw [if_pos hle]
      refine List.mem_flatMap.mpr ⟨setF x n 0, (ih n1 _).mpr ⟨fun m hm => ?_, fun m hm => ?_⟩, ?_⟩
      · have : ¬ m = n := fun e => nl (e ▸ hm)
        unfold setF
        rw [if_neg this]
        exact h1 m (List.mem_append_left _ hm)
      · unfold setF
        by_cases e : m = n
        · rw [if_pos e]
        · rw [if_neg e]
          exact h2 m (by simp [hm, e])
      · unfold cStep
        refine List.mem_map.mpr ⟨x n, ?_, ?_⟩
        · unfold plc
          split
          · simpa using hc
          · have : b.lo n = b.hi n := by omega
            rw [List.mem_singleton]
            omega
        · funext m
          unfold setF
          by_cases e : m = n
          · rw [if_pos e, e]
          · rw [if_neg e, if_neg e]
/-! the walk -/
theorem cn_turn1 (A B C F N T BK G : D) (LO HI j11 : Option D) (p : Int) (M M' : List D) (j : Option D) (h0 : dictD BK = .ok BK) (h1 : setD1 BK N (.int p) = .ok G) (h2 : appendD M G = .ok (M', .non)) :
    l_f_law_corners_1 [some A, some B, some C, some F, some N, some T, LO, HI, some (.lst M), some BK, some (.int p), j] = .ok (.nx, [some A, some B, some C, some F, some N, some T, LO, HI, some (.lst M'), some BK, some (.int p), some G]) := by
  unfold l_f_law_corners_1
  simp [h0, h1, h2]
theorem cn_turn2 (A B C F N T BK : D) (lo hi : Int) (M M' : List D) (j10 j11 i10 i11 : Option D) (h : forM (gSet 10) l_f_law_corners_1 ((plc lo hi).map .int) [some A, some B, some C, some F, some N, some T, some (.int lo), some (.int hi), some (.lst M), some BK, j10, j11] = .ok (.nx, [some A, some B, some C, some F, some N, some T, some (.int lo), some (.int hi), some (.lst M'), some BK, i10, i11])) :
    l_f_law_corners_2 [some A, some B, some C, some F, some N, some T, some (.int lo), some (.int hi), some (.lst M), some BK, j10, j11] = .ok (.nx, [some A, some B, some C, some F, some N, some T, some (.int lo), some (.int hi), some (.lst M'), some BK, i10, i11]) := by
  unfold l_f_law_corners_2
  unfold plc at h
  by_cases c : lo < hi
  · rw [if_pos c] at h
    simp [c]
    simp at h
    rw [h]
  · rw [if_neg c] at h
    simp [c]
    simp at h
    rw [h]
theorem cn_loop1 {ks : List Str} {x : Str → Int} {n : Str} (hn : n ∉ ks) (hl : ks.length < 1000) (lo hi : Int) (M : List D) (hM : M.length < 5000) (A B C F T : D) (LO HI j10 j11 : Option D) : ∃ i10 i11, forM (gSet 10) l_f_law_corners_1 ((plc lo hi).map .int) [some A, some B, some C, some F, some (.str n), some T, LO, HI, some (.lst M), some (bkD ks x), j10, j11] =
    .ok (.nx, [some A, some B, some C, some F, some (.str n), some T, LO, HI, some (.lst (M ++ (cStep n lo hi x).map (bkD (ks ++ [n])))), some (bkD ks x), i10, i11]) := by
  obtain ⟨ρ', q1, i10, i11, q2⟩ := forM_map_inv (t := gSet 10) (b := l_f_law_corners_1) D.int (fun k ρ => ∃ i10 i11, ρ = [some A, some B, some C, some F, some (.str n), some T, LO, HI, some (.lst (M ++ (((plc lo hi).take k).map fun p => setF x n p).map (bkD (ks ++ [n])))), some (bkD ks x), i10, i11]) (plc lo hi)
    [some A, some B, some C, some F, some (.str n), some T, LO, HI, some (.lst M), some (bkD ks x), j10, j11] ⟨j10, j11, by simp⟩ fun k p ρ hk ⟨i10, i11, e⟩ => by
      subst e
      have hk' := (List.getElem?_eq_some_iff.mp hk).1
      have h2 : (plc lo hi).length ≤ 2 := by unfold plc; split <;> simp
      refine ⟨_, _, rfl, cn_turn1 _ _ _ _ _ _ _ (bkD (ks ++ [n]) (setF x n p)) _ _ none _ _ _ i11 rfl (set_bk hn (by omega)) (appendD_lt (by simp; omega)), some (.int p), some (bkD (ks ++ [n]) (setF x n p)), ?_⟩
      rw [take_succ' hk, List.map_append, List.map_append, List.append_assoc]
      rfl
  rw [List.take_length] at q2
  exact ⟨i10, i11, by rw [q1, q2]; rfl⟩
theorem cn_loop2 {ks : List Str} {n : Str} (hn : n ∉ ks) (hl : ks.length < 1000) (lo hi : Int) (X : List (Str → Int)) (hX : X.length < 1000) (A B C F T : D) (j9 j10 j11 : Option D) : ∃ i9 i10 i11, forM (gSet 9) l_f_law_corners_2 (X.map (bkD ks)) [some A, some B, some C, some F, some (.str n), some T, some (.int lo), some (.int hi), some (.lst []), j9, j10, j11] =
    .ok (.nx, [some A, some B, some C, some F, some (.str n), some T, some (.int lo), some (.int hi), some (.lst ((X.flatMap (cStep n lo hi)).map (bkD (ks ++ [n])))), i9, i10, i11]) := by
  obtain ⟨ρ', q1, i9, i10, i11, q2⟩ := forM_map_inv (t := gSet 9) (b := l_f_law_corners_2) (bkD ks) (fun k ρ => ∃ i9 i10 i11, ρ = [some A, some B, some C, some F, some (.str n), some T, some (.int lo), some (.int hi), some (.lst (((X.take k).flatMap (cStep n lo hi)).map (bkD (ks ++ [n])))), i9, i10, i11]) X
    [some A, some B, some C, some F, some (.str n), some T, some (.int lo), some (.int hi), some (.lst []), j9, j10, j11] ⟨j9, j10, j11, rfl⟩ fun k x ρ hk ⟨i9, i10, i11, e⟩ => by
      subst e
      have hk' := (List.getElem?_eq_some_iff.mp hk).1
      have hb : (((X.take k).flatMap (cStep n lo hi)).map (bkD (ks ++ [n]))).length < 5000 := by
        rw [List.length_map]
        have := cFlat_len n lo hi (X.take k)
        rw [List.length_take] at this
        omega
      obtain ⟨a10, a11, h⟩ := cn_loop1 (x := x) hn hl lo hi _ hb A B C F T (some (.int lo)) (some (.int hi)) i10 i11
      refine ⟨_, _, rfl, cn_turn2 _ _ _ _ _ _ _ _ _ _ _ _ _ _ _ h, some (bkD ks x), a10, a11, ?_⟩
      rw [take_succ' hk, List.flatMap_append, List.map_append]
      simp
  rw [List.take_length] at q2
  exact ⟨i9, i10, i11, by rw [q1, q2]⟩
theorem cn_turn3 (A B C N T : D) (a lo hi nd : Int) (k : Bool) (F : List D) (M' : List D) (j6 j7 j8 j9 j10 j11 i9 i10 i11 : Option D) (h1 : inD N B = .ok k) (h2 : k = true → ixD B N = .ok (rgD a hi)) (h2' : k = false → a = 0 ∧ T = .int hi) (h3 : ixD C N = .ok (.int nd)) (h4 : max a nd = lo)
    (h : forM (gSet 9) l_f_law_corners_2 (if lo ≤ hi then F else []) [some A, some B, some C, some (.lst F), some N, some T, some (.int lo), some (.int hi), some (.lst []), j9, j10, j11] = .ok (.nx, [some A, some B, some C, some (.lst F), some N, some T, some (.int lo), some (.int hi), some (.lst M'), i9, i10, i11])) :
    l_f_law_corners_3 [some A, some B, some C, some (.lst F), some N, some T, j6, j7, j8, j9, j10, j11] = .ok (.nx, [some A, some B, some C, some (.lst M'), some N, some T, some (.int lo), some (.int hi), some (.lst M'), i9, i10, i11]) := by
  unfold l_f_law_corners_3
  have hm := max_int a nd
  rw [h4] at hm
  unfold rgD at h2
  cases k with
  | true =>
    have h2 := h2 rfl
    by_cases c : lo ≤ hi
    · rw [if_pos c] at h
      simp [h1, h2, h3, hm, c, h]
    · rw [if_neg c] at h
      simp [h1, h2, h3, hm, c, h]
  | false =>
    obtain ⟨e1, e2⟩ := h2' rfl
    subst e1 e2
    by_cases c : lo ≤ hi
    · rw [if_pos c] at h
      simp [h1, h3, hm, c, h]
    · rw [if_neg c] at h
      simp [h1, h3, hm, c, h]
theorem cn_raw (A B C r : D) (L : List D) (j4 j5 j6 j7 j8 j9 j10 j11 : Option D) (h1 : sortedD A = .ok (.lst L)) (h2 : forM (gTupT 2 (gsCons (gSet 4) (gsCons (gSet 5) gsNil))) l_f_law_corners_3 L [some A, some B, some C, some (.lst [.dic false []]), none, none, none, none, none, none, none, none] = .ok (.nx, [some A, some B, some C, some r, j4, j5, j6, j7, j8, j9, j10, j11])) : rv (m_f_law_corners [A, B, C]) = .ok r := by
  unfold m_f_law_corners
  rw [rv_fn]
  unfold b_f_law_corners
  simp [h1, h2]
def cutB (b : Bo) (need : Str → Int) : Bo := ⟨fun n => max (b.lo n) (need n), b.hi⟩
theorem corners_ok {S : List Str} {T : Str → Int} {K : List Str} {b : Bo} {need : Str → Int} (hS : Names S) (hw : ∀ n ∈ S, n ∉ K → b.lo n = 0 ∧ b.hi n = T n) :
    rv (m_f_law_corners [spD S T, shD K b, bkD S need]) = .ok (.lst ((cAll (strSort S) (cutB b need)).map (bkD (strSort S)))) := by
  have hn : (strSort S).Nodup := strSort_nodup.mpr hS.nd
  have hl3 : (strSort S).length ≤ 3 := by rw [strSort_len]; exact hS.l3
  have hsort : sortedD (spD S T) = .ok (.lst ((strSort S).map (tupS fun n => .int (T n)))) := sorted_pairs hS.nd
  have hmem : ∀ n ∈ strSort S, n ∈ S := fun n h => strSort_mem.mp h
  generalize strSort S = L at hn hl3 hsort hmem
  obtain ⟨ρ', q1, j4, j5, j6, j7, j8, j9, j10, j11, q2⟩ := forM_map_inv (t := gTupT 2 (gsCons (gSet 4) (gsCons (gSet 5) gsNil))) (b := l_f_law_corners_3) (tupS fun n => .int (T n)) (fun k ρ => ∃ j4 j5 j6 j7 j8 j9 j10 j11, ρ = [some (spD S T), some (shD K b), some (bkD S need), some (.lst ((cAll (L.take k) (cutB b need)).map (bkD (L.take k)))), j4, j5, j6, j7, j8, j9, j10, j11]) L
    [some (spD S T), some (shD K b), some (bkD S need), some (.lst [.dic false []]), none, none, none, none, none, none, none, none] ⟨none, none, none, none, none, none, none, none, rfl⟩ fun k n ρ hk ⟨j4, j5, j6, j7, j8, j9, j10, j11, e⟩ => by
      subst e
      have hnL : n ∈ L := List.mem_of_getElem? hk
      have hnS := hmem n hnL
      have nk : n ∉ L.take k := fun z => by
        have nd := hn
        rw [← List.take_append_drop (k + 1) L, take_succ' hk] at nd
        exact (List.nodup_append.mp (List.nodup_append.mp nd).1).2.2 n z n (by simp) rfl
      have hlen : (cAll (L.take k) (cutB b need)).length ≤ 2 ^ 3 := Nat.le_trans (cAll_len _ _) (Nat.pow_le_pow_right (by decide) (by rw [List.length_take]; omega))
      have h3 : ixD (bkD S need) (.str n) = .ok (.int (need n)) := ix_dS hnS
      have h1 : inD (.str n) (shD K b) = .ok (decide (n ∈ K)) := in_dS
      have ec : (cAll (L.take (k + 1)) (cutB b need)) = cOne (cutB b need) (cAll (L.take k) (cutB b need)) n := by rw [take_succ' hk, cAll_snoc]
      obtain ⟨M', i9, i10, i11, hM, hf⟩ : ∃ (M' : List D) (i9 i10 i11 : Option D), M' = ((cAll (L.take (k + 1)) (cutB b need)).map (bkD (L.take (k + 1)))) ∧ forM (gSet 9) l_f_law_corners_2 (if max (b.lo n) (need n) ≤ b.hi n then (cAll (L.take k) (cutB b need)).map (bkD (L.take k)) else []) [some (spD S T), some (shD K b), some (bkD S need), some (.lst ((cAll (L.take k) (cutB b need)).map (bkD (L.take k)))), some (.str n), some (.int (T n)), some (.int (max (b.lo n) (need n))), some (.int (b.hi n)), some (.lst []), j9, j10, j11] =
          .ok (.nx, [some (spD S T), some (shD K b), some (bkD S need), some (.lst ((cAll (L.take k) (cutB b need)).map (bkD (L.take k)))), some (.str n), some (.int (T n)), some (.int (max (b.lo n) (need n))), some (.int (b.hi n)), some (.lst M'), i9, i10, i11]) := by
        by_cases c : max (b.lo n) (need n) ≤ b.hi n
        · obtain ⟨i9, i10, i11, hf⟩ := cn_loop2 (ks := L.take k) nk (by rw [List.length_take]; omega) (max (b.lo n) (need n)) (b.hi n) (cAll (L.take k) (cutB b need)) (by omega) (spD S T) (shD K b) (bkD S need) (.lst ((cAll (L.take k) (cutB b need)).map (bkD (L.take k)))) (.int (T n)) j9 j10 j11
          refine ⟨_, i9, i10, i11, ?_, by rw [if_pos c]; exact hf⟩
          rw [ec, take_succ' hk]
          unfold cOne
          rw [if_pos (show (cutB b need).lo n ≤ (cutB b need).hi n from c)]
          rfl
        · refine ⟨[], j9, j10, j11, ?_, by rw [if_neg c]; rfl⟩
          rw [ec]
          unfold cOne
          rw [if_neg (show ¬ (cutB b need).lo n ≤ (cutB b need).hi n from c)]
          rfl
      subst hM
      refine ⟨[some (spD S T), some (shD K b), some (bkD S need), some (.lst ((cAll (L.take k) (cutB b need)).map (bkD (L.take k)))), some (.str n), some (.int (T n)), j6, j7, j8, j9, j10, j11], _, rfl, cn_turn3 _ _ _ _ _ (b.lo n) _ _ (need n) (decide (n ∈ K)) _ _ _ _ _ _ _ _ _ _ _ h1 (fun z => ix_dS (of_decide_eq_true z)) (fun z => ?_) h3 rfl hf, _, _, _, _, _, _, _, _, rfl⟩
      obtain ⟨e1, e2⟩ := hw n hnS (of_decide_eq_false z)
      exact ⟨e1, by rw [e2]⟩
  rw [List.take_length] at q2
  subst q2
  exact cn_raw _ _ _ _ _ _ _ _ _ _ _ _ _ hsort q1
end DL.G
namespace DL.G
open PySem PySem.Spec L2
set_option autoImplicit false
/-! ### difference -/
def unS (a b : List Str) : List Str := a ++ b.filter fun k => !(a.any fun j => decide (j = k))
theorem mem_unS {a b : List Str} {k : Str} : k ∈ unS a b ↔ k ∈ a ∨ k ∈ b := by
  unfold unS
  rw [List.mem_append, List.mem_filter]
  by_cases h : k ∈ a
  · exact ⟨fun _ => .inl h, fun _ => .inl h⟩
  · have : (a.any fun j => decide (j = k)) = false := by
      rw [List.any_eq_false]
      intro j hj e
      exact h (of_decide_eq_true e ▸ hj)
    rw [this]
    simp
theorem unS_nodup {a b : List Str} (h1 : a.Nodup) (h2 : b.Nodup) : (unS a b).Nodup := by
  unfold unS
  rw [List.nodup_append]
  refine ⟨h1, h2.filter _, fun x hx y hy e => ?_⟩
  subst e
  have := (List.mem_filter.mp hy).2
  rw [Bool.not_eq_true', List.any_eq_false] at this
  exact this x hx (decide_eq_true rfl)
theorem unS_len (a b : List Str) : (unS a b).length ≤ a.length + b.length := by
  unfold unS
  rw [List.length_append]
  have := List.length_filter_le (fun k => !(a.any fun j => decide (j = k))) b
  omega
theorem orD_strs (a b : List Str) : orD (a.map D.str) (b.map D.str) = (unS a b).map D.str := by
  unfold orD unS
  rw [List.map_append, List.filter_map]
  congr 2
  apply List.filter_congr
  intro k _
  show (!((a.map D.str).any fun j => kEq j (D.str k))) = _
  rw [List.any_map]
  rfl
theorem setKD_ri {rs : List Str} {f : Str → D} (h : rs.length ≤ 4) : setKD (dS rs f) = .ok (.set (rs.map D.str)) := by
  show (if (kvS rs f).length ≤ 4 then Res.ok (D.set ((kvS rs f).map (·.1))) else .bad) = _
  rw [if_pos (by rw [kvS_len]; exact h), kvS_keys]
theorem sortS_strs (U : List Str) : sortS (.set (U.map D.str)) = .ok (.lst ((strSort U).map D.str)) := by
  unfold sortS
  dsimp only
  rw [strsOf_map]
theorem dif_elem (B0 B1 B2 C0 C1 C2 NA n c d r : D) (hB : isDic B2 = true) (hC : isDic C2 = true) (j3 : Option D) (h1 : getD2 B2 n (.tup [.int 0, .int 1]) = .ok c) (h2 : getD2 C2 n (.tup [.int 0, .int 1]) = .ok d) (h3 : rv (m_minus [c, d]) = .ok r) :
    eCall [none, none] m_minus (eCons (eGet2 (e2 ixD (eVar 0) (eRet (.int 2))) (eVar 4) (eRet (.tup [.int 0, .int 1]))) (eCons (eGet2 (e2 ixD (eVar 1) (eRet (.int 2))) (eVar 4) (eRet (.tup [.int 0, .int 1]))) eNil)) [some (.tup [B0, B1, B2]), some (.tup [C0, C1, C2]), some NA, j3, some n] = .ok (r, [some (.tup [B0, B1, B2]), some (.tup [C0, C1, C2]), some NA, j3, some n]) := by
  simp [hB, hC, h1, h2, h3]
abbrev difC : EM D := eDCompA [4] 2 (gSet 4) eYes (eVar 4) (eCall [none, none] m_minus (eCons (eGet2 (e2 ixD (eVar 0) (eRet (.int 2))) (eVar 4) (eRet (.tup [.int 0, .int 1]))) (eCons (eGet2 (e2 ixD (eVar 1) (eRet (.int 2))) (eVar 4) (eRet (.tup [.int 0, .int 1]))) eNil)))
theorem dif_raw (B0 B1 B2 C0 C1 C2 RI b : D) (xs ys us : List D) (L : D) (h1 : setKD B2 = .ok (.set xs)) (h2 : setKD C2 = .ok (.set ys)) (h3 : xs.length ≤ 3 ∧ ys.length ≤ 3) (h4 : sortS (.set (orD xs ys)) = .ok L) (h5 : difC [some (.tup [B0, B1, B2]), some (.tup [C0, C1, C2]), some L, none, none] = .ok (RI, [some (.tup [B0, B1, B2]), some (.tup [C0, C1, C2]), some L, none, none]))
    (h6 : rv (m_minus [B1, C1]) = .ok b) : rv (m_difference [.tup [B0, B1, B2], .tup [C0, C1, C2]]) = .ok (.tup [b, RI]) := by
  unfold m_difference
  rw [rv_fn]
  unfold b_difference
  unfold difC at h5
  simp [-ap_dcompA, h1, h2, h3, h4, h5, h6]
theorem difference_ok {e f : En} (he : e.rs.Nodup) (hf : f.rs.Nodup) (le : e.rs.length ≤ 3) (lf : f.rs.length ≤ 3) (e0 : ∀ n, n ∉ e.rs → e.r n = 0) (f0 : ∀ n, n ∉ f.rs → f.r n = 0) (eS : ∀ n, Sx 72 (e.r n)) (fS : ∀ n, Sx 72 (f.r n)) (eb : Sx 200 e.base) (fb : Sx 200 f.base) :
    rv (m_difference [entD e, entD f]) = .ok (.tup [frD (e.base - f.base), riD (strSort (unS e.rs f.rs)) (fun n => e.r n - f.r n)]) := by
  have nd : (strSort (unS e.rs f.rs)).Nodup := strSort_nodup.mpr (unS_nodup he hf)
  have ln : (strSort (unS e.rs f.rs)).length ≤ 6 := by
    rw [strSort_len]
    have := unS_len e.rs f.rs
    omega
  refine dif_raw _ _ _ _ _ _ _ _ (e.rs.map D.str) (f.rs.map D.str) [] _ (setKD_ri (by omega)) (setKD_ri (by omega)) (by simp; omega) (by rw [orD_strs]; exact sortS_strs _) ?_ (minusS eb fb (by decide) (by decide))
  generalize strSort (unS e.rs f.rs) = U at nd ln
  unfold difC
  rw [dcompA_lst (ds := U.map D.str) rfl]
  have hd := dcomp_all (vs := [4]) (t := gSet 4) (ek := eVar 4) (e := eCall [none, none] m_minus (eCons (eGet2 (e2 ixD (eVar 0) (eRet (.int 2))) (eVar 4) (eRet (.tup [.int 0, .int 1]))) (eCons (eGet2 (e2 ixD (eVar 1) (eRet (.int 2))) (eVar 4) (eRet (.tup [.int 0, .int 1]))) eNil))) (ρ0 := [some (entD e), some (entD f), some (.lst (U.map D.str)), none, none]) D.str (fun n => n) (fun n => frD (e.r n - f.r n)) U [] (fun n hn => by
    have g : ∀ (g : En), (∀ n, n ∉ g.rs → g.r n = 0) → getD2 (riD g.rs g.r) (.str n) (.tup [.int 0, .int 1]) = .ok (frD (g.r n)) := fun g g0 => by
      unfold riD
      rw [get2_dS]
      by_cases c : n ∈ g.rs
      · rw [if_pos c]
      · rw [if_neg c, g0 n c, frD0]
    exact ⟨[some (entD e), some (entD f), some (.lst (U.map D.str)), none, some (.str n)], rfl, rfl, dif_elem _ _ _ _ _ _ _ _ _ _ _ rfl rfl _ (g e e0) (g f f0) (minusS (eS n) (fS n) (by decide) (by decide)), rfl⟩) (by simpa using nd) (by simp; omega)
  rw [List.map_id', List.nil_append] at hd
  change dcompM _ _ _ _ _ _ _ [] = _ at hd
  have ew : wipeE [some (.tup [shD e.ks e.bx, frD e.base, riD e.rs e.r]), some (.tup [shD f.ks f.bx, frD f.base, riD f.rs f.r]), some (.lst (U.map D.str)), none, none] [4] = [some (entD e), some (entD f), some (.lst (U.map D.str)), none, none] := rfl
  rw [ew, hd]
  rfl
/-! ### lowest_rest -/
def loF (r : Str → Rat) (b : Bo) (n : Str) : Int := if r n < 0 then b.hi n else b.lo n
theorem low_turn (A B C n c p : D) (k : Bool) (L L' : List D) (l h : Int) (q : D) (j5 j6 : Option D) (hB : isDic B = true) (h1 : getD2 B n (.tup [.int 0, .int 1]) = .ok c) (h2 : rv (m_less [c, .tup [.int 0, .int 1]]) = .ok (.bl k)) (h3 : ixD A n = .ok (rgD l h)) (h4 : rv (m_frac [.int (if k = true then h else l), .int 1]) = .ok p) (h5 : rv (m_times [c, p]) = .ok q) (h6 : appendD L q = .ok (L', .non)) :
    l_lowest_rest_1 [some A, some B, some C, some (.lst L), some n, j5, j6] = .ok (.nx, [some A, some B, some C, some (.lst L'), some n, some c, some (.int (if k = true then h else l))]) := by
  unfold l_lowest_rest_1
  unfold rgD at h3
  cases k
  · simp at h4
    simp [hB, h1, h2, h3, h4, h5, h6]
  · simp at h4
    simp [hB, h1, h2, h3, h4, h5, h6]
theorem low_raw (A B r : D) (N L : List D) (j4 j5 j6 : Option D) (h : forM (gSet 4) l_lowest_rest_1 N [some A, some B, some (.lst N), some (.lst []), none, none, none] = .ok (.nx, [some A, some B, some (.lst N), some (.lst L), j4, j5, j6])) (h2 : rv (m_sum_of [.lst L]) = .ok r) : rv (m_lowest_rest [A, B, .lst N]) = .ok r := by
  unfold m_lowest_rest
  rw [rv_fn]
  unfold b_lowest_rest
  have h3 := (forA_lst (i := 2) (t := gSet 4) (b := l_lowest_rest_1) (ρ := [some A, some B, some (.lst N), some (.lst []), none, none, none]) (ds := N) rfl).trans h
  simp [-ap_forA, h3, h2]
def restV (r : Str → Rat) (b : Bo) (N : List Str) : Rat := rsum (N.map fun n => r n * (loF r b n : Rat))
theorem restV_Sx {r : Str → Rat} {b : Bo} (hr : ∀ n, Sx 144 (r n)) {N : List Str} (hl : N.length ≤ 3) (hb : ∀ n ∈ N, (b.lo n).natAbs ≤ 10 ^ 7 ∧ (b.hi n).natAbs ≤ 10 ^ 7) : Sx (3 * (144 * 10 ^ 7)) (restV r b N) := by
  have := rsum_Sx (l := N) (r := r) (x := loF r b) (M := 144) (N := 10 ^ 7) hr fun n hn => by
    unfold loF
    split
    · exact (hb n hn).2
    · exact (hb n hn).1
  exact this.mono (Nat.mul_le_mul_right _ hl)
theorem lowest_ok {S rs N : List Str} {r : Str → Rat} {b : Bo} (hr : ∀ n, Sx 144 (r n)) (h0 : ∀ n, n ∉ rs → r n = 0) (hN : ∀ n ∈ N, n ∈ S) (hl : N.length ≤ 3) (hb : ∀ n ∈ N, (b.lo n).natAbs ≤ 10 ^ 7 ∧ (b.hi n).natAbs ≤ 10 ^ 7) :
    rv (m_lowest_rest [bxD S b, riD rs r, .lst (N.map .str)]) = .ok (frD (restV r b N)) := by
  obtain ⟨ρ', q1, j4, j5, j6, q2⟩ := forM_map_inv (t := gSet 4) (b := l_lowest_rest_1) D.str (fun k ρ => ∃ j4 j5 j6, ρ = [some (bxD S b), some (riD rs r), some (.lst (N.map .str)), some (.lst (((N.take k).map fun n => r n * (loF r b n : Rat)).map frD)), j4, j5, j6]) N
    [some (bxD S b), some (riD rs r), some (.lst (N.map .str)), some (.lst []), none, none, none] ⟨none, none, none, rfl⟩ fun k n ρ hk ⟨j4, j5, j6, e⟩ => by
      subst e
      have hn := List.mem_of_getElem? hk
      have hk' := (List.getElem?_eq_some_iff.mp hk).1
      have h1 : getD2 (riD rs r) (.str n) (.tup [.int 0, .int 1]) = .ok (frD (r n)) := by
        unfold riD
        rw [get2_dS]
        by_cases c : n ∈ rs
        · rw [if_pos c]
        · rw [if_neg c, h0 n c, frD0]
      have h2 : rv (m_less [frD (r n), .tup [.int 0, .int 1]]) = .ok (.bl (decide (r n < 0))) := by
        rw [frD0]
        exact lessS (hr n) (Sx.zero (N := 0)) (by decide) (by decide)
      have el : (if decide (r n < 0) = true then b.hi n else b.lo n) = loF r b n := by
        unfold loF
        by_cases c : r n < 0
        · rw [if_pos c, if_pos (decide_eq_true c)]
        · rw [if_neg c, if_neg (by simpa using c)]
      have hz : (loF r b n).natAbs < 2 ^ 50 := by
        have := hb n hn
        unfold loF
        split <;> omega
      have h5 : rv (m_times [frD (r n), frD (loF r b n : Rat)]) = .ok (frD (r n * (loF r b n : Rat))) := timesS (hr n) (by decide) hz
      have tn := low_turn (bxD S b) (riD rs r) (.lst (N.map .str)) (.str n) (frD (r n)) (frD (loF r b n : Rat)) _ (((N.take k).map fun n => r n * (loF r b n : Rat)).map frD) _ (b.lo n) (b.hi n) _ j5 j6 rfl h1 h2 (ix_dS (hN n hn)) (by rw [el]; exact frac1 _) h5 (appendD_lt (by simp; omega))
      refine ⟨_, _, rfl, tn, some (.str n), some (frD (r n)), some (.int (if decide (r n < 0) = true then b.hi n else b.lo n)), ?_⟩
      rw [take_succ' hk, List.map_append, List.map_append]
      rfl
  rw [List.take_length] at q2
  subst q2
  have hs := sum_ok (qs := N.map fun n => r n * (loF r b n : Rat)) (M := 144 * 10 ^ 7) (fun q hq => by
    obtain ⟨n, hn, rfl⟩ := List.mem_map.mp hq
    refine (hr n).mulI ?_
    have := hb n hn
    unfold loF
    split
    · exact this.2
    · exact this.1) (by
      rw [List.length_map]
      have := Nat.mul_le_mul_right (144 * 10 ^ 7) hl
      omega) (by decide)
  exact low_raw _ _ _ _ _ _ _ _ q1 hs
end DL.G
namespace DL.G
open PySem PySem.Spec L2
set_option autoImplicit false
/-! ### over, first_place -/
theorem over_raw (x y u v z t : Int) (c : D) (m1 : mulD (.int x) (.int v) = .ok (.int z)) (m2 : mulD (.int y) (.int u) = .ok (.int t)) (f : rv (m_frac [.int z, .int t]) = .ok c) : rv (m_over [.tup [.int x, .int y], .tup [.int u, .int v]]) = .ok c := by
  unfold m_over
  rw [rv_fn]
  unfold b_over
  simp [m1, m2, f]
theorem over_ok {a b : Rat} (ha : Bd 50 a) (hb : Bd 50 b) (h0 : 0 < b) : rv (m_over [frD a, frD b]) = .ok (frD (a / b)) := by
  have m1 : mulD (.int a.num) (.int b.den) = .ok (.int (a.num * b.den)) := mulD_int (mul_small (p64 ha.1 (by decide)))
  have m2 : mulD (.int a.den) (.int b.num) = .ok (.int (a.den * b.num)) := mulD_int (mul_small (p64 ha.d (by decide)))
  have f := frac_ok (p := a.num * b.den) (q := a.den * b.num) (Int.mul_pos (denI a) (num_pos' h0)) (p250 (bmul ha.d hb.1) (by omega))
  rw [div_divInt] at f
  exact over_raw _ _ _ _ _ _ _ m1 m2 f
theorem place_lo (l : Int) (R Z a b c : D) (h1 : rv (m_frac [.int l, .int 1]) = .ok a) (h2 : rv (m_times [R, a]) = .ok b) (h3 : rv (m_plus [Z, b]) = .ok c) (h4 : rv (m_less [c, .tup [.int 0, .int 1]]) = .ok (.bl true)) : rv (m_first_place [.int l, R, Z]) = .ok (.int l) := by
  unfold m_first_place
  rw [rv_fn]
  unfold b_first_place
  simp [h1, h2, h3, h4]
theorem place_hi (l x y d : Int) (R Z a b c e : D) (h1 : rv (m_frac [.int l, .int 1]) = .ok a) (h2 : rv (m_times [R, a]) = .ok b) (h3 : rv (m_plus [Z, b]) = .ok c) (h4 : rv (m_less [c, .tup [.int 0, .int 1]]) = .ok (.bl false)) (h5 : rv (m_minus [.tup [.int 0, .int 1], R]) = .ok e) (h6 : rv (m_over [Z, e]) = .ok (.tup [.int x, .int y])) (h7 : fdivD (.int x) (.int y) = .ok (.int d)) :
    rv (m_first_place [.int l, R, Z]) = .ok (.int (d + 1)) := by
  unfold m_first_place
  rw [rv_fn]
  unfold b_first_place
  simp [h1, h2, h3, h4, h5, h6, h7]
/-- the first place at which the value is below nought -/
theorem place_ok {lo hi : Int} {r z : Rat} {M : Nat} (hr : Sx 144 r) (hz : Sx M z) (hM : M < 2 ^ 45) (hl : lo.natAbs ≤ 10 ^ 7) (hh : hi.natAbs ≤ 10 ^ 7) (hle : lo ≤ hi) (hneg : z + r * ((if r < 0 then hi else lo : Int) : Rat) < 0) :
    ∃ p : Int, rv (m_first_place [.int lo, frD r, frD z]) = .ok (.int p) ∧ lo ≤ p ∧ p ≤ hi ∧ z + r * (p : Rat) < 0 := by
  have h1 := frac1 lo
  have h2 := timesS (n := lo) hr (by decide) (by omega)
  have hrl : Sx (144 * 10 ^ 7) (r * (lo : Rat)) := hr.mulI hl
  have h3 := plusS hz hrl (by omega) (by decide)
  have h4 : rv (m_less [frD (z + r * (lo : Rat)), .tup [.int 0, .int 1]]) = .ok (.bl (decide (z + r * (lo : Rat) < 0))) := by
    rw [frD0]
    exact lessS (hz.add hrl) (Sx.zero (N := 0)) (by omega) (by decide)
  by_cases c : z + r * (lo : Rat) < 0
  · rw [decide_eq_true c] at h4
    exact ⟨lo, place_lo _ _ _ _ _ _ h1 h2 h3 h4, Int.le_refl _, hle, c⟩
  · rw [decide_eq_false c] at h4
    have rn : r < 0 := Classical.byContradiction fun n => by
      rw [if_neg n] at hneg
      exact c hneg
    rw [if_pos rn] at hneg
    have h5 : rv (m_minus [.tup [.int 0, .int 1], frD r]) = .ok (frD (0 - r)) := by
      rw [frD0]
      exact minusS (Sx.zero (N := 0)) hr (by decide) (by decide)
    have bz : Bd 50 z := hz.bd (by omega)
    have br : Bd 50 (0 - r) := ((Sx.zero (N := 0)).sub hr).bd (by decide)
    have h0 : 0 < 0 - r := by grind
    have h6 := over_ok bz br h0
    have bq := div_bd bz br h0
    have h7 : fdivD (.int (z / (0 - r)).num) (.int ((z / (0 - r)).den : Int)) = .ok (.int ((z / (0 - r)).floor)) := by
      rw [fdivD_int (div_mid (by have := (z / (0 - r)).den_pos; omega) (by have := bq.2; omega)), Int.fdiv_eq_ediv_of_nonneg _ (by omega), Rat.floor_def]
    generalize hq : z / (0 - r) = q at h6 h7
    have key : ∀ x : Int, q.floor + 1 ≤ x ↔ z + r * (x : Rat) < 0 := fun x => by
      have e1 : q.floor + 1 ≤ x ↔ q.floor < x := by omega
      rw [e1, Rat.floor_lt_iff, ← hq, Rat.div_lt_iff h0]
      constructor
      · intro h; grind
      · intro h; grind
    have f1 := (key hi).mpr hneg
    have f2 : ¬ (q.floor + 1 ≤ lo) := fun n => c ((key lo).mp n)
    exact ⟨q.floor + 1, place_hi _ _ _ _ _ _ _ _ _ _ h1 h2 h3 h4 h5 h6 h7, by omega, f1, (key _).mp (Int.le_refl _)⟩
/-! ### first_below -/
theorem fb_turn (A BA RI c s q t u v l' : D) (N : List D) (FO FO' : D) (k : Nat) (n : D) (lo hi p : Int) (j7 j8 : Option D) (hd : isDic RI = true) (h1 : getD2 RI n (.tup [.int 0, .int 1]) = .ok c) (hk : k + 1 ≤ N.length) (h2 : rv (m_lowest_rest [A, RI, .lst (N.drop (k + 1))]) = .ok l') (h3 : rv (m_plus [BA, l']) = .ok s)
    (h4 : ixD A n = .ok (rgD lo hi)) (h5 : rv (m_first_place [.int lo, c, s]) = .ok (.int p)) (h6 : setD1 FO n (.int p) = .ok FO') (h7 : ixD FO' n = .ok (.int p)) (h8 : rv (m_frac [.int p, .int 1]) = .ok t) (h9 : rv (m_times [c, t]) = .ok u) (h10 : rv (m_plus [BA, u]) = .ok v) :
    l_first_below_1 [some A, some BA, some RI, some (.lst N), some FO, some (.int (k : Int)), some n, j7, j8] = .ok (.nx, [some A, some v, some RI, some (.lst N), some FO', some (.int (k : Int)), some n, some c, some s]) := by
  unfold l_first_below_1
  unfold rgD at h4
  have hs : slLD (.lst N) (some ((k : Int) + 1)) none = .ok (.lst (N.drop (k + 1))) := by
    have := sl_from (xs := N) (k := k + 1) hk
    rw [show ((k : Int) + 1) = ((k + 1 : Nat) : Int) by omega]
    exact this
  simp [hd, h1, hs, h2, h3, h4, h5, h6, h7, h8, h9, h10]
theorem fb_none (A BA RI l' s : D) (N : List D) (h1 : sortedD A = .ok (.lst N)) (h2 : rv (m_lowest_rest [A, RI, .lst N]) = .ok l') (h3 : rv (m_plus [BA, l']) = .ok s) (h4 : rv (m_less [s, .tup [.int 0, .int 1]]) = .ok (.bl false)) : rv (m_first_below [A, BA, RI]) = .ok .non := by
  unfold m_first_below
  rw [rv_fn]
  unfold b_first_below
  simp [h1, h2, h3, h4]
theorem fb_some (A BA RI l' s r : D) (N M : List D) (j1 j5 j6 j7 j8 : Option D) (h1 : sortedD A = .ok (.lst N)) (h2 : rv (m_lowest_rest [A, RI, .lst N]) = .ok l') (h3 : rv (m_plus [BA, l']) = .ok s) (h4 : rv (m_less [s, .tup [.int 0, .int 1]]) = .ok (.bl true)) (h5 : gEnum (.lst N) = .ok M)
    (h6 : forM (gTupT 2 (gsCons (gSet 5) (gsCons (gSet 6) gsNil))) l_first_below_1 M [some A, some BA, some RI, some (.lst N), some (.dic false []), none, none, none, none] = .ok (.nx, [some A, j1, some RI, some (.lst N), some r, j5, j6, j7, j8])) : rv (m_first_below [A, BA, RI]) = .ok r := by
  unfold m_first_below
  rw [rv_fn]
  unfold b_first_below
  simp [h1, h2, h3, h4, h5, h6]
def linV (r : Str → Rat) (L : List Str) (x : Str → Int) : Rat := rsum (L.map fun n => r n * (x n : Rat))
theorem restV_le {r : Str → Rat} {b : Bo} {L : List Str} {x : Str → Int} (h : ∀ n ∈ L, b.lo n ≤ x n ∧ x n ≤ b.hi n) : restV r b L ≤ linV r L x := rsum_le fun n hn => by
  have := h n hn
  unfold loF
  by_cases c : r n < 0
  · rw [if_pos c]
    exact mul_mono (.inr ⟨by grind, this.2⟩)
  · rw [if_neg c]
    exact mul_mono (.inl ⟨by grind, this.1⟩)
theorem below_ok {S rs : List Str} {r : Str → Rat} {b : Bo} {base : Rat} (hn : S.Nodup) (hl : S.length ≤ 3) (hr : ∀ n, Sx 144 (r n)) (h0 : ∀ n, n ∉ rs → r n = 0) (hB : Sx 500 base) (hb : ∀ n ∈ S, 0 ≤ b.lo n ∧ b.lo n ≤ b.hi n ∧ b.hi n ≤ 10 ^ 7) :
    (rv (m_first_below [bxD S b, frD base, riD rs r]) = .ok .non ∧ ∀ x, (∀ n ∈ S, b.lo n ≤ x n ∧ x n ≤ b.hi n) → ¬ base + linV r S x < 0) ∨
    ∃ x, rv (m_first_below [bxD S b, frD base, riD rs r]) = .ok (bkD (strSort S) x) ∧ (∀ n ∈ S, b.lo n ≤ x n ∧ x n ≤ b.hi n) ∧ base + linV r S x < 0 := by
  have hsort : sortedD (bxD S b) = .ok (.lst ((strSort S).map D.str)) := sorted_dS (by omega)
  have nd : (strSort S).Nodup := strSort_nodup.mpr hn
  have ll : (strSort S).length ≤ 3 := by rw [strSort_len]; exact hl
  have hm : ∀ n ∈ strSort S, n ∈ S := fun n h => strSort_mem.mp h
  have el : ∀ x, linV r S x = linV r (strSort S) x := fun x => rsum_perm ((strSort_perm S).symm.map _)
  have hmem2 : ∀ n ∈ S, n ∈ strSort S := fun n h => strSort_mem.mpr h
  generalize strSort S = L at hsort nd ll hm el hmem2
  have hbL : ∀ n ∈ L, (b.lo n).natAbs ≤ 10 ^ 7 ∧ (b.hi n).natAbs ≤ 10 ^ 7 := fun n hn => by have := hb n (hm n hn); omega
  have low : ∀ N : List Str, (∀ n ∈ N, n ∈ L) → N.length ≤ 3 → rv (m_lowest_rest [bxD S b, riD rs r, .lst (N.map .str)]) = .ok (frD (restV r b N)) := fun N h1 h2 => lowest_ok hr h0 (fun n h => hm n (h1 n h)) h2 fun n h => hbL n (h1 n h)
  have lowS : ∀ N : List Str, (∀ n ∈ N, n ∈ L) → N.length ≤ 3 → Sx (3 * (144 * 10 ^ 7)) (restV r b N) := fun N h1 h2 => restV_Sx hr h2 fun n h => hbL n (h1 n h)
  have l1 := low L (fun n h => h) ll
  have s1 := lowS L (fun n h => h) ll
  have p1 := plusS hB s1 (by decide) (by decide)
  have c1 : rv (m_less [frD (base + restV r b L), .tup [.int 0, .int 1]]) = .ok (.bl (decide (base + restV r b L < 0))) := by
    rw [frD0]
    exact lessS (hB.add s1) (Sx.zero (N := 0)) (by decide) (by decide)
  by_cases c : base + restV r b L < 0
  · right
    rw [decide_eq_true c] at c1
    obtain ⟨ρ', q1, x, base', j5, j6, j7, j8, q2, q3, q4, q5, q6⟩ := forM_map_inv (t := gTupT 2 (gsCons (gSet 5) (gsCons (gSet 6) gsNil))) (b := l_first_below_1) (fun (i : Nat) => D.tup [.int (i : Int), (((L.map D.str))[i]?).getD .non])
      (fun k ρ => ∃ (x : Str → Int) (base' : Rat) (j5 j6 j7 j8 : Option D), ρ = [some (bxD S b), some (frD base'), some (riD rs r), some (.lst (L.map D.str)), some (bkD (L.take k) x), j5, j6, j7, j8] ∧ Sx (500 + k * (144 * 10 ^ 7)) base' ∧ (∀ n ∈ L.take k, b.lo n ≤ x n ∧ x n ≤ b.hi n) ∧ base' = base + linV r (L.take k) x ∧ base' + restV r b (L.drop k) < 0)
      (List.range L.length) [some (bxD S b), some (frD base), some (riD rs r), some (.lst (L.map D.str)), some (.dic false []), none, none, none, none] ⟨fun _ => 0, base, none, none, none, none, rfl, hB, by simp, by show base = base + 0; grind, c⟩ fun k i ρ hk ⟨x, base', j5, j6, j7, j8, eρ, hS, hx, hbase, hneg⟩ => by
        subst eρ
        have hkl : k < L.length := by
          have := (List.getElem?_eq_some_iff.mp hk).1
          rw [List.length_range] at this
          exact this
        have hik : i = k := by
          rw [List.getElem?_range hkl] at hk
          exact (Option.some.inj hk).symm
        subst hik
        have hLi : L[i]? = some L[i] := List.getElem?_eq_getElem hkl
        generalize hn' : L[i] = n at hLi
        have hnL : n ∈ L := List.mem_of_getElem? hLi
        have hnS := hm n hnL
        have eg : ((L.map D.str)[i]?).getD .non = .str n := by rw [List.getElem?_map, hLi]; rfl
        have hd : L.drop i = n :: L.drop (i + 1) := by rw [List.drop_eq_getElem_cons hkl, hn']
        have nk : n ∉ L.take i := fun z => by
          have nd' := nd
          rw [← List.take_append_drop i L, hd] at nd'
          exact (List.nodup_append.mp nd').2.2 n z n List.mem_cons_self rfl
        have sub : ∀ m ∈ L.drop (i + 1), m ∈ L := fun m h => List.mem_of_mem_drop h
        have ld : (L.drop (i + 1)).length ≤ 3 := by rw [List.length_drop]; omega
        have l2 := low (L.drop (i + 1)) sub ld
        rw [List.map_drop] at l2
        have s2 := lowS (L.drop (i + 1)) sub ld
        have hSb : 500 + i * (144 * 10 ^ 7) ≤ 500 + 3 * (144 * 10 ^ 7) := by
          have : i * (144 * 10 ^ 7) ≤ 3 * (144 * 10 ^ 7) := Nat.mul_le_mul_right _ (by omega)
          omega
        have hS' := hS.mono hSb
        have p2 := plusS hS' s2 (by decide) (by decide)
        have hbn := hb n hnS
        have g1 : getD2 (riD rs r) (.str n) (.tup [.int 0, .int 1]) = .ok (frD (r n)) := by
          unfold riD
          rw [get2_dS]
          by_cases c : n ∈ rs
          · rw [if_pos c]
          · rw [if_neg c, h0 n c, frD0]
        rw [hd] at hneg
        have hneg' : (base' + restV r b (L.drop (i + 1))) + r n * ((if r n < 0 then b.hi n else b.lo n : Int) : Rat) < 0 := by
          have e : restV r b (n :: L.drop (i + 1)) = r n * (loF r b n : Rat) + restV r b (L.drop (i + 1)) := rfl
          rw [e] at hneg
          unfold loF at hneg
          grind
        obtain ⟨p, e1, e2, e3, e4⟩ := place_ok (hr n) (hS'.add s2) (by decide) (hbL n hnL).1 (hbL n hnL).2 hbn.2.1 hneg'
        have st : setD1 (bkD (L.take i) x) (.str n) (.int p) = .ok (bkD (L.take i ++ [n]) (setF x n p)) := set_bk nk (by rw [List.length_take]; omega)
        have gt : ixD (bkD (L.take i ++ [n]) (setF x n p)) (.str n) = .ok (.int p) := by
          have := ix_dS (ks := L.take i ++ [n]) (f := fun m => D.int (setF x n p m)) (q := n) (by simp)
          unfold setF at this
          rw [if_pos rfl] at this
          exact this
        have tp := timesS (n := p) (hr n) (by decide) (by omega)
        have hp : Sx (144 * 10 ^ 7) (r n * (p : Rat)) := (hr n).mulI (by omega)
        have p3 := plusS hS' hp (by decide) (by decide)
        have et : L.take (i + 1) = L.take i ++ [n] := take_succ' hLi
        refine ⟨[some (bxD S b), some (frD base'), some (riD rs r), some (.lst (L.map D.str)), some (bkD (L.take i) x), some (.int (i : Int)), some (.str n), j7, j8], _, by rw [eg]; rfl,
          fb_turn _ _ _ _ _ .non _ _ _ _ (L.map D.str) _ _ i (.str n) (b.lo n) (b.hi n) p _ _ rfl g1 (by rw [List.length_map]; omega) l2 p2 (ix_dS hnS) e1 st gt (frac1 p) tp p3, setF x n p, base' + r n * (p : Rat), some (.int (i : Int)), some (.str n), some (frD (r n)), some (frD (base' + restV r b (L.drop (i + 1)))), by rw [et], ?_, fun m hm' => ?_, ?_, ?_⟩
        · refine (hS.add hp).mono ?_
          rw [Nat.add_mul, Nat.one_mul]
          omega
        · rw [et] at hm'
          unfold setF
          rcases List.mem_append.mp hm' with hm' | hm'
          · have ne : ¬ m = n := fun e => nk (e ▸ hm')
            rw [if_neg ne]
            exact hx m hm'
          · cases List.mem_singleton.mp hm'
            rw [if_pos rfl]
            exact ⟨e2, e3⟩
        · rw [et]
          unfold linV
          rw [List.map_append, rsum_app, hbase]
          have a1 : ((L.take i).map fun m => r m * (setF x n p m : Rat)) = (L.take i).map fun m => r m * (x m : Rat) := List.map_congr_left fun m hm' => by
            have ne : ¬ m = n := fun e => nk (e ▸ hm')
            unfold setF
            rw [if_neg ne]
          have a2 : rsum ([n].map fun m => r m * (setF x n p m : Rat)) = r n * (p : Rat) := by
            show r n * ((setF x n p n : Int) : Rat) + 0 = _
            unfold setF
            rw [if_pos rfl]
            grind
          rw [a1, a2]
          unfold linV
          grind
        · grind
    rw [List.length_range] at q2 q4 q5 q6
    rw [List.take_length] at q2 q4 q5
    rw [List.drop_length] at q6
    have er : restV r b [] = 0 := rfl
    rw [er] at q6
    have eM : gEnum (.lst (L.map D.str)) = .ok ((List.range L.length).map fun (i : Nat) => D.tup [.int (i : Int), (((L.map D.str))[i]?).getD .non]) := by
      show Res.ok (enumL (L.map D.str)) = _
      unfold enumL
      rw [List.length_map]
    subst q2
    refine ⟨x, fb_some _ _ _ _ _ _ _ _ _ _ _ _ _ hsort l1 p1 c1 eM q1, fun n hnS => q4 n (hmem2 n hnS), ?_⟩
    rw [el, ← q5]
    grind
  · left
    rw [decide_eq_false c] at c1
    refine ⟨fb_none _ _ _ _ _ _ hsort l1 p1 c1, fun x hx => ?_⟩
    rw [el]
    have := restV_le (r := r) (b := b) (L := L) (x := x) fun n hn => hx n (hm n hn)
    grind
end DL.G
namespace DL.G
open PySem PySem.Spec L2
open PySem.W (dataLt alike)
set_option autoImplicit false
/-! ### stepped -/
def stepB (b : Bo) (n : Str) : Bo := ⟨fun m => if m = n then max 0 (b.lo m - 1) else b.lo m, fun m => if m = n then b.hi m - 1 else b.hi m⟩
theorem step_none (B N : D) (l : Int) (h : ixD B N = .ok (rgD l 0)) : rv (m_stepped [B, N]) = .ok .non := by
  unfold m_stepped
  rw [rv_fn]
  unfold b_stepped
  unfold rgD at h
  simp [h]
theorem step_some (K K' : List (D × D)) (n : Str) (l u : Int) (hu : u ≠ 0) (hl : K.length < 10000) (h : ixD (.dic false K) (.str n) = .ok (rgD l u)) (hp : putD K (.str n) (rgD (max 0 (l - 1)) (u - 1)) = K') : rv (m_stepped [.dic false K, .str n]) = .ok (.dic false K') := by
  unfold m_stepped
  rw [rv_fn]
  unfold b_stepped
  unfold rgD at h hp
  have hm := max_int 0 (l - 1)
  have hz : K.length < sizeLine := by rw [sizeLine_eq]; omega
  have hk : asKey (.str n) = some (.inr n) := rfl
  simp [h, hu, hm, hz, hk, hp]
theorem stepped_ok {S : List Str} {b : Bo} {n : Str} (hn : n ∈ S) (hl : S.length < 1000) : rv (m_stepped [bxD S b, .str n]) = .ok (if b.hi n = 0 then .non else bxD S (stepB b n)) := by
  have h : ixD (bxD S b) (.str n) = .ok (rgD (b.lo n) (b.hi n)) := ix_dS hn
  by_cases c : b.hi n = 0
  · rw [if_pos c]
    rw [c] at h
    exact step_none _ _ _ h
  · rw [if_neg c]
    refine step_some _ _ n (b.lo n) (b.hi n) c (by rw [kvS_len]; omega) h ?_
    rw [put_kvS, if_pos hn]
    refine kvS_congr fun m _ => ?_
    by_cases e : m = n
    · subst e
      rw [if_pos rfl]
      show _ = rgD (if m = m then _ else _) (if m = m then _ else _)
      rw [if_pos rfl, if_pos rfl]
    · rw [if_neg e]
      show _ = rgD (if m = n then _ else _) (if m = n then _ else _)
      rw [if_neg e, if_neg e]
/-! ### values -/
def incF (x : Str → Int) (n : Str) : Str → Int := setF x n (x n + 1)
theorem lin_sub (q : Str → Rat) {x : Str → Int} {R S : List Str} (h : R.Sublist S) : S.Nodup → (∀ n ∈ S, n ∉ R → q n = 0) → rsum (R.map fun n => q n * (x n : Rat)) = linV q S x := by
  induction h with
  | slnil => intro _ _; rfl
  | @cons R S a h ih =>
    intro hn h0
    obtain ⟨n1, n2⟩ := List.nodup_cons.mp hn
    have ha : q a = 0 := h0 a List.mem_cons_self fun z => n1 (h.subset z)
    rw [ih n2 fun n hn hr => h0 n (List.mem_cons_of_mem _ hn) hr]
    show linV q S x = q a * (x a : Rat) + linV q S x
    rw [ha]
    grind
  | @cons_cons R S a h ih =>
    intro hn h0
    obtain ⟨n1, n2⟩ := List.nodup_cons.mp hn
    show q a * (x a : Rat) + rsum (R.map fun n => q n * (x n : Rat)) = q a * (x a : Rat) + linV q S x
    congr 1
    exact ih n2 fun n hnS hr => h0 n (List.mem_cons_of_mem _ hnS) fun z => by
      rcases List.mem_cons.mp z with e | z
      · subst e
        exact n1 hnS
      · exact hr z
theorem val_lin {S : List Str} {T : Str → Int} {e : En} (h : EnOk S T e) (hn : S.Nodup) (x : Str → Int) : e.val x = e.base + linV e.r S x := by
  unfold En.val
  rw [lin_sub e.r h.rs hn fun n _ hr => h.r0 n hr]
theorem linV_diff (r s : Str → Rat) (x : Str → Int) : ∀ S : List Str, linV (fun n => r n - s n) S x = linV r S x - linV s S x
  | [] => by show (0 : Rat) = 0 - 0; grind
  | n :: S => by
    have := linV_diff r s x S
    show (r n - s n) * (x n : Rat) + linV (fun n => r n - s n) S x = (r n * (x n : Rat) + linV r S x) - (s n * (x n : Rat) + linV s S x)
    rw [this]
    grind
theorem linV_inc {r : Str → Rat} {x : Str → Int} {n : Str} : ∀ {S : List Str}, S.Nodup → linV r S (incF x n) = linV r S x + (if n ∈ S then r n else 0)
  | [], _ => by show (0 : Rat) = 0 + 0; grind
  | m :: S, hn => by
    obtain ⟨n1, n2⟩ := List.nodup_cons.mp hn
    have ih := linV_inc (r := r) (x := x) (n := n) n2
    show r m * ((incF x n m : Int) : Rat) + linV r S (incF x n) = (r m * (x m : Rat) + linV r S x) + _
    rw [ih]
    unfold incF setF
    by_cases e : m = n
    · subst e
      rw [if_pos rfl, if_neg n1, if_pos List.mem_cons_self]
      have : ((x m + 1 : Int) : Rat) = (x m : Rat) + 1 := by rw [Rat.intCast_add]; rfl
      rw [this]
      grind
    · rw [if_neg e]
      have : (n ∈ m :: S) ↔ n ∈ S := by
        rw [List.mem_cons]
        exact ⟨fun z => z.resolve_left fun z2 => e z2.symm, .inr⟩
      by_cases c : n ∈ S
      · rw [if_pos c, if_pos (this.mpr c)]; grind
      · rw [if_neg c, if_neg (fun z => c (this.mp z))]; grind
theorem inc_step {S : List Str} {b : Bo} {x : Str → Int} {n : Str} (hn : n ∈ S) (h0 : ∀ m ∈ S, 0 ≤ x m) : (∀ m ∈ S, (stepB b n).lo m ≤ x m ∧ x m ≤ (stepB b n).hi m) ↔ inB S (incF x n) b = true := by
  rw [inB_iff]
  constructor
  · intro h m hm
    have := h m hm
    unfold stepB at this
    unfold incF setF
    by_cases e : m = n
    · subst e
      simp at this
      simp
      omega
    · simp [e] at this
      simp [e]
      exact this
  · intro h m hm
    have := h m hm
    have := h0 m hm
    unfold stepB
    unfold incF setF at *
    by_cases e : m = n
    · subst e
      simp at *
      omega
    · simp [e] at *
      omega
/-! ### first_fall -/
theorem ff_none1 (A F N W s0 s1 s2 : D) (h1 : rv (m_whole [A, s0]) = .ok W) (h2 : rv (m_stepped [W, N]) = .ok .non) : rv (m_first_fall [A, F, .tup [s0, s1, s2], N]) = .ok .non := by
  unfold m_first_fall
  rw [rv_fn]
  unfold b_first_fall
  simp [h1, h2]
theorem ff_none2 (A N W I s0 s1 s2 f0 f1 f2 : D) (h1 : rv (m_whole [A, s0]) = .ok W) (h2 : rv (m_stepped [W, N]) = .ok I) (h3 : isC I .non = .ok false) (h4 : rv (m_common [A, f0, I]) = .ok .non) : rv (m_first_fall [A, .tup [f0, f1, f2], .tup [s0, s1, s2], N]) = .ok .non := by
  unfold m_first_fall
  rw [rv_fn]
  unfold b_first_fall
  simp [h1, h2, h3, h4]
theorem ff_some (A N W I B s0 s1 s2 f0 f1 f2 b r c q v : D) (h1 : rv (m_whole [A, s0]) = .ok W) (h2 : rv (m_stepped [W, N]) = .ok I) (h3 : isC I .non = .ok false) (h4 : rv (m_common [A, f0, I]) = .ok B) (h5 : isC B .non = .ok false) (h6 : rv (m_difference [.tup [s0, s1, s2], .tup [f0, f1, f2]]) = .ok (.tup [b, r])) (hd : isDic s2 = true) (h7 : getD2 s2 N (.tup [.int 0, .int 1]) = .ok c) (h8 : rv (m_plus [b, c]) = .ok q) (h9 : rv (m_first_below [B, q, r]) = .ok v) :
    rv (m_first_fall [A, .tup [f0, f1, f2], .tup [s0, s1, s2], N]) = .ok v := by
  unfold m_first_fall
  rw [rv_fn]
  unfold b_first_fall
  simp [h1, h2, h3, h4, h5, h6, hd, h7, h8, h9]
def Fall (S : List Str) (T : Str → Int) (E : List En) (x : Str → Int) (n : Str) : Prop := n ∈ S ∧ InSp S T x ∧ InSp S T (incF x n) ∧ priceE S E (incF x n) < priceE S E x
theorem first_fall_ok {S : List Str} {T : Str → Int} {E : List En} (h : Lst S T E) (hS : Names S) (hT : ∀ n ∈ S, T n ≤ 10 ^ 7) {f s : En} (hf : f ∈ E) (hs : s ∈ E) {n : Str} (hn : n ∈ S) :
    (rv (m_first_fall [spD S T, entD f, entD s, .str n]) = .ok .non ∧ ∀ x, InSp S T x → inB S x f.bx = true → inB S (incF x n) s.bx = true → ¬ priceE S E (incF x n) < priceE S E x) ∨
    ∃ x, rv (m_first_fall [spD S T, entD f, entD s, .str n]) = .ok (bkD (strSort S) x) ∧ Fall S T E x n := by
  have okf := h.ok f hf
  have oks := h.ok s hs
  have hl3 := hS.l3
  have pf := h.part.ok f.bx (List.mem_map.mpr ⟨f, hf, rfl⟩)
  have ps := h.part.ok s.bx (List.mem_map.mpr ⟨s, hs, rfl⟩)
  have w1 := whole_ok (S := S) (T := T) (K := s.ks) (b := s.bx) hS.nd (by omega) oks.wh
  have w2 := stepped_ok (S := S) (b := s.bx) hn (by omega)
  -- prices of the two baskets, where these lie in the boxes
  have pr : ∀ x, InSp S T x → inB S x f.bx = true → inB S (incF x n) s.bx = true → InSp S T (incF x n) ∧ priceE S E (incF x n) - priceE S E x = (s.base - f.base + s.r n) + linV (fun m => s.r m - f.r m) S x := fun x hx h1 h2 => by
    have hi : InSp S T (incF x n) := fun m hm => by
      have := inB_iff.mp h2 m hm
      have := ps m hm
      omega
    refine ⟨hi, ?_⟩
    rw [h.price hx hf h1, h.price hi hs h2, val_lin okf hS.nd, val_lin oks hS.nd, linV_inc hS.nd, if_pos hn, linV_diff]
    grind
  by_cases c0 : s.bx.hi n = 0
  · rw [if_pos c0] at w2
    refine .inl ⟨ff_none1 _ _ _ _ _ _ _ w1 w2, fun x hx h1 h2 => ?_⟩
    have a1 := inB_iff.mp h2 n hn
    have a2 := hx n hn
    unfold incF setF at a1
    simp at a1
    omega
  · rw [if_neg c0] at w2
    have w3 := common_ok (S := S) (T := T) (K := f.ks) (L := S) (b := f.bx) (c := stepB s.bx n) hS.nd (by omega) okf.wh (fun n a b => absurd a b)
    by_cases c1 : bne S (bcap f.bx (stepB s.bx n)) = true
    · rw [if_pos c1] at w3
      have lf : f.rs.length ≤ 3 := Nat.le_trans okf.rs.length_le hl3
      have ls : s.rs.length ≤ 3 := Nat.le_trans oks.rs.length_le hl3
      have w4 := difference_ok (e := s) (f := f) (hS.nd.sublist oks.rs) (hS.nd.sublist okf.rs) ls lf oks.r0 okf.r0 oks.rS okf.rS oks.bS okf.bS
      have w5 : getD2 (riD s.rs s.r) (.str n) (.tup [.int 0, .int 1]) = .ok (frD (s.r n)) := by
        unfold riD
        rw [get2_dS]
        by_cases c : n ∈ s.rs
        · rw [if_pos c]
        · rw [if_neg c, oks.r0 n c, frD0]
      have bS : Sx 400 (s.base - f.base) := (oks.bS.sub okf.bS).mono (by decide)
      have w6 := plusS bS (oks.rS n) (by decide) (by decide)
      have hr : ∀ m, Sx 144 (s.r m - f.r m) := fun m => ((oks.rS m).sub (okf.rS m)).mono (by decide)
      have r0 : ∀ m, m ∉ strSort (unS s.rs f.rs) → s.r m - f.r m = 0 := fun m hm => by
        have e1 : m ∉ s.rs := fun z => hm (strSort_mem.mpr (mem_unS.mpr (.inl z)))
        have e2 : m ∉ f.rs := fun z => hm (strSort_mem.mpr (mem_unS.mpr (.inr z)))
        rw [oks.r0 m e1, okf.r0 m e2]
        grind
      have hb : ∀ m ∈ S, 0 ≤ (bcap f.bx (stepB s.bx n)).lo m ∧ (bcap f.bx (stepB s.bx n)).lo m ≤ (bcap f.bx (stepB s.bx n)).hi m ∧ (bcap f.bx (stepB s.bx n)).hi m ≤ 10 ^ 7 := fun m hm => by
        have a1 := of_decide_eq_true (List.all_eq_true.mp c1 m hm)
        have a2 := pf m hm
        have a3 := hT m hm
        change max (f.bx.lo m) ((stepB s.bx n).lo m) ≤ min (f.bx.hi m) ((stepB s.bx n).hi m) at a1
        show 0 ≤ max (f.bx.lo m) ((stepB s.bx n).lo m) ∧ max (f.bx.lo m) ((stepB s.bx n).lo m) ≤ min (f.bx.hi m) ((stepB s.bx n).hi m) ∧ min (f.bx.hi m) ((stepB s.bx n).hi m) ≤ 10 ^ 7
        omega
      have w7 := below_ok (S := S) (rs := strSort (unS s.rs f.rs)) (r := fun m => s.r m - f.r m) (b := bcap f.bx (stepB s.bx n)) (base := s.base - f.base + s.r n) hS.nd hl3 hr r0 ((bS.add (oks.rS n)).mono (by decide)) hb
      have fin : ∀ v, rv (m_first_below [bxD S (bcap f.bx (stepB s.bx n)), frD (s.base - f.base + s.r n), riD (strSort (unS s.rs f.rs)) (fun m => s.r m - f.r m)]) = .ok v → rv (m_first_fall [spD S T, entD f, entD s, .str n]) = .ok v := fun v hv =>
        ff_some _ _ _ _ _ _ _ _ _ _ _ _ _ _ _ _ w1 w2 (isC_dS _ _) w3 (isC_dS _ _) w4 rfl w5 w6 hv
      have both : ∀ x, (∀ m ∈ S, (bcap f.bx (stepB s.bx n)).lo m ≤ x m ∧ x m ≤ (bcap f.bx (stepB s.bx n)).hi m) ↔ (inB S x f.bx = true ∧ ∀ m ∈ S, (stepB s.bx n).lo m ≤ x m ∧ x m ≤ (stepB s.bx n).hi m) := fun x => by
        rw [inB_iff]
        constructor
        · intro hx
          refine ⟨fun m hm => ?_, fun m hm => ?_⟩
          · have := hx m hm
            have e1 : (bcap f.bx (stepB s.bx n)).lo m = max (f.bx.lo m) ((stepB s.bx n).lo m) := rfl
            have e2 : (bcap f.bx (stepB s.bx n)).hi m = min (f.bx.hi m) ((stepB s.bx n).hi m) := rfl
            rw [e1, e2] at this
            omega
          · have := hx m hm
            have e1 : (bcap f.bx (stepB s.bx n)).lo m = max (f.bx.lo m) ((stepB s.bx n).lo m) := rfl
            have e2 : (bcap f.bx (stepB s.bx n)).hi m = min (f.bx.hi m) ((stepB s.bx n).hi m) := rfl
            rw [e1, e2] at this
            omega
        · rintro ⟨h1, h2⟩ m hm
          have a1 := h1 m hm
          have a2 := h2 m hm
          have e1 : (bcap f.bx (stepB s.bx n)).lo m = max (f.bx.lo m) ((stepB s.bx n).lo m) := rfl
          have e2 : (bcap f.bx (stepB s.bx n)).hi m = min (f.bx.hi m) ((stepB s.bx n).hi m) := rfl
          rw [e1, e2]
          omega
      rcases w7 with ⟨v1, v2⟩ | ⟨x, v1, v2, v3⟩
      · refine .inl ⟨fin _ v1, fun x hx h1 h2 => ?_⟩
        have hin := (both x).mpr ⟨h1, (inc_step hn fun m hm => (hx m hm).1).mpr h2⟩
        have := v2 x hin
        have e := (pr x hx h1 h2).2
        grind
      · right
        obtain ⟨b1, b2⟩ := (both x).mp v2
        have hx : InSp S T x := fun m hm => by
          have := inB_iff.mp b1 m hm
          have := pf m hm
          omega
        have h2 := (inc_step hn fun m hm => (hx m hm).1).mp b2
        obtain ⟨p1, p2⟩ := pr x hx b1 h2
        exact ⟨x, fin _ v1, hn, hx, p1, by grind⟩
    · rw [if_neg c1] at w3
      refine .inl ⟨ff_none2 _ _ _ _ _ _ _ _ _ _ w1 w2 (isC_dS _ _) w3, fun x hx h1 h2 => ?_⟩
      exfalso
      apply c1
      refine List.all_eq_true.mpr fun m hm => decide_eq_true ?_
      have a1 := inB_iff.mp h1 m hm
      have a2 := (inc_step hn fun m hm => (hx m hm).1).mpr h2 m hm
      show max (f.bx.lo m) ((stepB s.bx n).lo m) ≤ min (f.bx.hi m) ((stepB s.bx n).hi m)
      omega
end DL.G
namespace DL.G
open PySem PySem.Spec L2
open PySem.W (dataLt alike)
set_option autoImplicit false
/-! ### falls -/
theorem ft_none (A B F N U f s : D) (j7 : Option D) (h : rv (m_first_fall [A, f, s, N]) = .ok .non) : l_falls_1 [some A, some B, some F, some N, some U, some f, some s, j7] = .ok (.nx, [some A, some B, some F, some N, some U, some f, some s, some .non]) := by
  unfold l_falls_1
  simp [h]
theorem ft_first (A B N U f s BK : D) (j7 : Option D) (h : rv (m_first_fall [A, f, s, N]) = .ok BK) (h2 : isNotC BK .non = .ok true) : l_falls_1 [some A, some B, some .non, some N, some U, some f, some s, j7] = .ok (.nx, [some A, some B, some (.tup [BK, N]), some N, some U, some f, some s, some BK]) := by
  unfold l_falls_1
  simp [h, h2]
theorem ft_next (A B N U f s BK E0 N0 r t : D) (c : Bool) (j7 : Option D) (h : rv (m_first_fall [A, f, s, N]) = .ok BK) (h2 : isNotC BK .non = .ok true) (h3 : rv (m_in_row [BK]) = .ok r) (h4 : rv (m_in_row [E0]) = .ok t) (h5 : ltP (fun p q => dataLt p q) r t = .ok c) :
    l_falls_1 [some A, some B, some (.tup [E0, N0]), some N, some U, some f, some s, j7] = .ok (.nx, [some A, some B, some (if c = true then .tup [BK, N] else .tup [E0, N0]), some N, some U, some f, some s, some BK]) := by
  unfold l_falls_1
  cases c <;> simp [h, h2, h3, h4, h5]
def GoodF (S : List Str) (T : Str → Int) (E : List En) (F : D) : Prop := F = .non ∨ ∃ x n, F = .tup [bkD (strSort S) x, .str n] ∧ Fall S T E x n
def NoF (S : List Str) (T : Str → Int) (E : List En) (n : Str) (f s : En) : Prop := ∀ x, InSp S T x → inB S x f.bx = true → inB S (incF x n) s.bx = true → ¬ priceE S E (incF x n) < priceE S E x
section
variable {S : List Str} {T : Str → Int} {E : List En}
theorem falls_in (h : Lst S T E) (hS : Names S) (hT : ∀ n ∈ S, T n ≤ 10 ^ 7) {f : En} (hf : f ∈ E) {n : Str} (hn : n ∈ S) (F U : D) (hF : GoodF S T E F) (j6 j7 : Option D) : ∃ F' i6 i7, forM (gSet 6) l_falls_1 (E.map entD) [some (spD S T), some (.lst (E.map entD)), some F, some (.str n), some U, some (entD f), j6, j7] =
      .ok (.nx, [some (spD S T), some (.lst (E.map entD)), some F', some (.str n), some U, some (entD f), i6, i7]) ∧ GoodF S T E F' ∧ (F' = .non → F = .non ∧ ∀ s ∈ E, NoF S T E n f s) := by
  have ll : (strSort S).length < 64 := by rw [strSort_len]; have := hS.l3; omega
  obtain ⟨ρ', q1, F', i6, i7, q2, q3, q4⟩ := forM_map_inv (t := gSet 6) (b := l_falls_1) entD (fun k ρ => ∃ F' i6 i7, ρ = [some (spD S T), some (.lst (E.map entD)), some F', some (.str n), some U, some (entD f), i6, i7] ∧ GoodF S T E F' ∧ (F' = .non → F = .non ∧ ∀ s ∈ E.take k, NoF S T E n f s)) E
    [some (spD S T), some (.lst (E.map entD)), some F, some (.str n), some U, some (entD f), j6, j7] ⟨F, j6, j7, rfl, hF, fun e => ⟨e, by simp⟩⟩ fun k s ρ hk ⟨F', i6, i7, e, g, hz⟩ => by
      subst e
      have hs := List.mem_of_getElem? hk
      rcases first_fall_ok h hS hT hf hs hn with ⟨r1, r2⟩ | ⟨x, r1, r2⟩
      · refine ⟨_, _, rfl, ft_none _ _ _ _ _ _ _ i7 r1, F', some (entD s), some .non, rfl, g, fun e => ?_⟩
        obtain ⟨a, b⟩ := hz e
        refine ⟨a, fun s' hs' => ?_⟩
        rw [take_succ' hk] at hs'
        rcases List.mem_append.mp hs' with hs' | hs'
        · exact b s' hs'
        · cases List.mem_singleton.mp hs'
          exact r2
      · rcases g with rfl | ⟨y, m, rfl, hy⟩
        · exact ⟨_, _, rfl, ft_first _ _ _ _ _ _ _ i7 r1 (isNotC_dS _ _), _, some (entD s), _, rfl, .inr ⟨x, n, rfl, r2⟩, fun e => nomatch e⟩
        · have tn := ft_next (spD S T) (.lst (E.map entD)) (.str n) U (entD f) (entD s) (bkD (strSort S) x) (bkD (strSort S) y) (.str m) _ _ _ i7 r1 (isNotC_dS _ _) (in_row_ok ll) (in_row_ok ll) (row_lt (strSort S) x y)
          refine ⟨_, _, rfl, tn, _, some (entD s), some (bkD (strSort S) x), rfl, ?_, fun e => ?_⟩
          · split
            · exact .inr ⟨x, n, rfl, r2⟩
            · exact .inr ⟨y, m, rfl, hy⟩
          · split at e <;> exact nomatch e
  rw [List.take_length] at q4
  exact ⟨F', i6, i7, by rw [q1, q2], q3, q4⟩
theorem falls_mid (h : Lst S T E) (hS : Names S) (hT : ∀ n ∈ S, T n ≤ 10 ^ 7) {n : Str} (hn : n ∈ S) (F U : D) (hF : GoodF S T E F) (j5 j6 j7 : Option D) : ∃ F' i5 i6 i7, forM (gSet 5) l_falls_2 (E.map entD) [some (spD S T), some (.lst (E.map entD)), some F, some (.str n), some U, j5, j6, j7] =
      .ok (.nx, [some (spD S T), some (.lst (E.map entD)), some F', some (.str n), some U, i5, i6, i7]) ∧ GoodF S T E F' ∧ (F' = .non → F = .non ∧ ∀ f ∈ E, ∀ s ∈ E, NoF S T E n f s) := by
  obtain ⟨ρ', q1, F', i5, i6, i7, q2, q3, q4⟩ := forM_map_inv (t := gSet 5) (b := l_falls_2) entD (fun k ρ => ∃ F' i5 i6 i7, ρ = [some (spD S T), some (.lst (E.map entD)), some F', some (.str n), some U, i5, i6, i7] ∧ GoodF S T E F' ∧ (F' = .non → F = .non ∧ ∀ f ∈ E.take k, ∀ s ∈ E, NoF S T E n f s)) E
    [some (spD S T), some (.lst (E.map entD)), some F, some (.str n), some U, j5, j6, j7] ⟨F, j5, j6, j7, rfl, hF, fun e => ⟨e, by simp⟩⟩ fun k f ρ hk ⟨F', i5, i6, i7, e, g, hz⟩ => by
      subst e
      have hf := List.mem_of_getElem? hk
      obtain ⟨F2, a6, a7, r1, r2, r3⟩ := falls_in h hS hT hf hn F' U g i6 i7
      have r4 := (forA_lst (i := 1) (t := gSet 6) (b := l_falls_1) (ρ := [some (spD S T), some (.lst (E.map entD)), some F', some (.str n), some U, some (entD f), i6, i7]) (ds := E.map entD) rfl).trans r1
      refine ⟨[some (spD S T), some (.lst (E.map entD)), some F', some (.str n), some U, some (entD f), i6, i7], _, rfl, ?_, F2, some (entD f), a6, a7, rfl, r2, fun e => ?_⟩
      · unfold l_falls_2
        rw [ap_seq, r4]
        rfl
      · obtain ⟨b1, b2⟩ := r3 e
        obtain ⟨b3, b4⟩ := hz b1
        refine ⟨b3, fun f' hf' => ?_⟩
        rw [take_succ' hk] at hf'
        rcases List.mem_append.mp hf' with hf' | hf'
        · exact b4 f' hf'
        · cases List.mem_singleton.mp hf'
          exact b2
  rw [List.take_length] at q4
  exact ⟨F', i5, i6, i7, by rw [q1, q2], q3, q4⟩
theorem falls_raw (A B r : D) (L : List D) (j3 j4 j5 j6 j7 : Option D) (h1 : sortedD A = .ok (.lst L)) (h2 : forM (gTupT 2 (gsCons (gSet 3) (gsCons (gSet 4) gsNil))) l_falls_3 L [some A, some B, some .non, none, none, none, none, none] = .ok (.nx, [some A, some B, some r, j3, j4, j5, j6, j7])) : rv (m_falls [A, B]) = .ok r := by
  unfold m_falls
  rw [rv_fn]
  unfold b_falls
  simp [h1, h2]
theorem falls_ok (h : Lst S T E) (hS : Names S) (hT : ∀ n ∈ S, T n ≤ 10 ^ 7) : ∃ F, rv (m_falls [spD S T, .lst (E.map entD)]) = .ok F ∧ GoodF S T E F ∧ (F = .non → ∀ x n, ¬ Fall S T E x n) := by
  have hsort : sortedD (spD S T) = .ok (.lst ((strSort S).map (tupS fun n => .int (T n)))) := sorted_pairs hS.nd
  have hm : ∀ n ∈ strSort S, n ∈ S := fun n h => strSort_mem.mp h
  have hm2 : ∀ n ∈ S, n ∈ strSort S := fun n h => strSort_mem.mpr h
  generalize strSort S = L at hsort hm hm2
  obtain ⟨ρ', q1, F', i3, i4, i5, i6, i7, q2, q3, q4⟩ := forM_map_inv (t := gTupT 2 (gsCons (gSet 3) (gsCons (gSet 4) gsNil))) (b := l_falls_3) (tupS fun n => .int (T n)) (fun k ρ => ∃ F' i3 i4 i5 i6 i7, ρ = [some (spD S T), some (.lst (E.map entD)), some F', i3, i4, i5, i6, i7] ∧ GoodF S T E F' ∧ (F' = .non → ∀ n ∈ L.take k, ∀ f ∈ E, ∀ s ∈ E, NoF S T E n f s)) L
    [some (spD S T), some (.lst (E.map entD)), some .non, none, none, none, none, none] ⟨.non, none, none, none, none, none, rfl, .inl rfl, fun _ => by simp⟩ fun k n ρ hk ⟨F', i3, i4, i5, i6, i7, e, g, hz⟩ => by
      subst e
      have hn := hm n (List.mem_of_getElem? hk)
      obtain ⟨F2, a5, a6, a7, r1, r2, r3⟩ := falls_mid h hS hT hn F' (.int (T n)) g i5 i6 i7
      have r4 := (forA_lst (i := 1) (t := gSet 5) (b := l_falls_2) (ρ := [some (spD S T), some (.lst (E.map entD)), some F', some (.str n), some (.int (T n)), i5, i6, i7]) (ds := E.map entD) rfl).trans r1
      refine ⟨[some (spD S T), some (.lst (E.map entD)), some F', some (.str n), some (.int (T n)), i5, i6, i7], _, rfl, ?_, F2, some (.str n), some (.int (T n)), a5, a6, a7, rfl, r2, fun e => ?_⟩
      · unfold l_falls_3
        rw [ap_seq, r4]
        rfl
      · obtain ⟨b1, b2⟩ := r3 e
        have b3 := hz b1
        intro m hm'
        rw [take_succ' hk] at hm'
        rcases List.mem_append.mp hm' with hm' | hm'
        · exact b3 m hm'
        · cases List.mem_singleton.mp hm'
          exact b2
  rw [List.take_length] at q4
  subst q2
  refine ⟨F', falls_raw _ _ _ _ _ _ _ _ _ hsort q1, q3, fun e x n ⟨hn, hx, hi, hlt⟩ => ?_⟩
  obtain ⟨f, hf, h1⟩ := h.has hx
  obtain ⟨s, hs, h2⟩ := h.has hi
  exact q4 e n (hm2 n hn) f hf s hs x hx h1 h2 hlt
/-! ### no fall, no cheaper basket above -/
theorem sum_down {S : List Str} {f g : Str → Nat} (h : ∀ n ∈ S, g n ≤ f n) {m : Str} (hm : m ∈ S) (hlt : g m < f m) : (S.map g).sum < (S.map f).sum := by
  induction S with
  | nil => cases hm
  | cons a S ih =>
    have h1 := h a List.mem_cons_self
    have le : ∀ S : List Str, (∀ n ∈ S, g n ≤ f n) → (S.map g).sum ≤ (S.map f).sum := fun S => by
      induction S with
      | nil => intro _; exact Nat.le_refl _
      | cons b S ih =>
        intro h
        have h1 := h b List.mem_cons_self
        have h2 := ih fun n hn => h n (List.mem_cons_of_mem _ hn)
        rw [List.map_cons, List.map_cons, List.sum_cons, List.sum_cons]
        omega
    rw [List.map_cons, List.map_cons, List.sum_cons, List.sum_cons]
    rcases List.mem_cons.mp hm with e | hm
    · subst e
      have := le S fun n hn => h n (List.mem_cons_of_mem _ hn)
      omega
    · have := ih (fun n hn => h n (List.mem_cons_of_mem _ hn)) hm
      omega
theorem up_path (h : Lst S T E) (hno : ∀ x n, ¬ Fall S T E x n) : ∀ (d : Nat) (x y : Str → Int), (S.map fun n => (y n - x n).toNat).sum ≤ d → InSp S T x → InSp S T y → (∀ n ∈ S, x n ≤ y n) → priceE S E x ≤ priceE S E y := by
  intro d
  induction d with
  | zero =>
    intro x y hd hx hy hle
    have e : ∀ n ∈ S, x n = y n := fun n hn => by
      by_cases c : x n = y n
      · exact c
      · have := hle n hn
        have := sum_down (S := S) (f := fun n => (y n - x n).toNat) (g := fun _ => 0) (fun _ _ => Nat.zero_le _) hn (by show 0 < (y n - x n).toNat; omega)
        omega
    rw [price_congr h e]
    exact Rat.le_refl
  | succ d ih =>
    intro x y hd hx hy hle
    by_cases all : ∀ n ∈ S, x n = y n
    · rw [price_congr h all]
      exact Rat.le_refl
    · obtain ⟨n, hn, hne⟩ : ∃ n, n ∈ S ∧ x n ≠ y n := Classical.byContradiction fun z => all fun n hn => Classical.byContradiction fun z2 => z ⟨n, hn, z2⟩
      have hlt : x n < y n := by have := hle n hn; omega
      have hi : InSp S T (incF x n) := fun m hm => by
        have a1 := hx m hm
        have a2 := hy m hm
        unfold incF setF
        by_cases e : m = n
        · subst e
          rw [if_pos rfl]
          omega
        · rw [if_neg e]
          exact a1
      have hle2 : ∀ m ∈ S, incF x n m ≤ y m := fun m hm => by
        have a1 := hle m hm
        unfold incF setF
        by_cases e : m = n
        · subst e
          rw [if_pos rfl]
          omega
        · rw [if_neg e]
          exact a1
      have sd := sum_down (S := S) (f := fun m => (y m - x m).toNat) (g := fun m => (y m - incF x n m).toNat) (fun m hm => by
        unfold incF setF
        by_cases e : m = n
        · subst e
          simp only [if_pos]
          omega
        · rw [if_neg e]
          exact Nat.le_refl _) hn (by
        show (y n - incF x n n).toNat < (y n - x n).toNat
        unfold incF setF
        rw [if_pos rfl]
        omega)
      have h1 := ih (incF x n) y (by omega) hi hy hle2
      have h2 : ¬ priceE S E (incF x n) < priceE S E x := fun z => hno x n ⟨hn, hx, hi, z⟩
      grind
end
end DL.G
namespace DL.G
open PySem PySem.Spec L2
set_option autoImplicit false
theorem seq_nx {f h : SM} {ρ ρ' : Ev} (e : f ρ = .ok (.nx, ρ')) : sSeq f h ρ = h ρ' := by
  unfold sSeq
  rw [e]
/-! ### rises made positive -/
def absQ (q : Rat) : Rat := if q < 0 then -q else q
theorem num_neg' {q : Rat} : q.num < 0 ↔ q < 0 := by
  have h : 0 < (-q).num ↔ 0 < -q := frac_pos
  rw [Rat.neg_num] at h
  constructor
  · intro z
    have := h.mp (by omega)
    grind
  · intro z
    have := h.mpr (by grind)
    omega
theorem absQ_fr (q : Rat) : D.tup [.int (if q.num < 0 then -q.num else q.num), .int (q.den : Int)] = frD (absQ q) := by
  unfold absQ
  by_cases c : q < 0
  · have : q.num < 0 := num_neg'.mpr c
    rw [if_pos this, if_pos c]
    exact frD_neg q
  · have : ¬ q.num < 0 := fun z => c (num_neg'.mp z)
    rw [if_neg this, if_neg c]
    rfl
def absE (e : En) : En := ⟨e.ks, e.bx, 2, e.rs, fun n => absQ (e.r n)⟩
theorem absE_ok {S : List Str} {T : Str → Int} {e : En} (h : EnOk S T e) : EnOk S T (absE e) where
  ks := h.ks
  wh := h.wh
  rs := h.rs
  r0 := fun n hn => by
    show absQ (e.r n) = 0
    rw [h.r0 n hn]
    unfold absQ
    rw [if_neg (by grind)]
  rS := fun n => by
    show Sx 72 (absQ (e.r n))
    unfold absQ
    split
    · exact (h.rS n).neg
    · exact h.rS n
  bS := (Sx.int (N := 2) (n := 2) (by decide)).mono (by decide)
theorem abs_elem (a0 a1 a2 a3 a4 a6 a7 a9 a10 a11 a12 a13 a14 a15 a16 : Option D) (RI n : D) (x y : Int) (h : ixD RI n = .ok (.tup [.int x, .int y])) : eL gTup (eCons (eVar 5) (eCons (eL gTup (eCons (e1 absD (e2 ixD (e2 ixD (eVar 8) (eVar 5)) (eRet (.int 0)))) (eCons (e2 ixD (e2 ixD (eVar 8) (eVar 5)) (eRet (.int 1))) eNil))) eNil)) [a0, a1, a2, a3, a4, some n, a6, a7, some RI, a9, a10, a11, a12, a13, a14, a15, a16] = .ok (.tup [n, .tup [.int (if x < 0 then -x else x), .int y]], [a0, a1, a2, a3, a4, some n, a6, a7, some RI, a9, a10, a11, a12, a13, a14, a15, a16]) := by
  simp [h]
abbrev absIn : EM D := eCompA [5] 8 (gSet 5) eYes (eL gTup (eCons (eVar 5) (eCons (eL gTup (eCons (e1 absD (e2 ixD (e2 ixD (eVar 8) (eVar 5)) (eRet (.int 0)))) (eCons (e2 ixD (e2 ixD (eVar 8) (eVar 5)) (eRet (.int 1))) eNil))) eNil)))
theorem absIn_ok (rs : List Str) (r : Str → Rat) (hl : rs.length < 1000) (a0 a1 a2 a3 a4 a5 a6 a7 a9 a10 a11 a12 a13 a14 a15 a16 : Option D) : absIn [a0, a1, a2, a3, a4, a5, a6, a7, some (riD rs r), a9, a10, a11, a12, a13, a14, a15, a16] = .ok (.lst (rs.map (tupS fun n => frD (absQ (r n)))), [a0, a1, a2, a3, a4, a5, a6, a7, some (riD rs r), a9, a10, a11, a12, a13, a14, a15, a16]) := by
  unfold absIn
  rw [compA_dS (ks := rs) (f := fun n => frD (r n)) rfl]
  have c := compM_all (vs := [5]) (t := gSet 5) (e := eL gTup (eCons (eVar 5) (eCons (eL gTup (eCons (e1 absD (e2 ixD (e2 ixD (eVar 8) (eVar 5)) (eRet (.int 0)))) (eCons (e2 ixD (e2 ixD (eVar 8) (eVar 5)) (eRet (.int 1))) eNil))) eNil))) (ρ0 := [a0, a1, a2, a3, a4, none, a6, a7, some (riD rs r), a9, a10, a11, a12, a13, a14, a15, a16]) D.str (tupS fun n => frD (absQ (r n))) rs (fun n hn => by
    refine ⟨[a0, a1, a2, a3, a4, some (.str n), a6, a7, some (riD rs r), a9, a10, a11, a12, a13, a14, a15, a16], rfl, ?_, rfl⟩
    have h1 : ixD (riD rs r) (.str n) = .ok (.tup [.int (r n).num, .int ((r n).den : Int)]) := ix_dS hn
    rw [abs_elem _ _ _ _ _ _ _ _ _ _ _ _ _ _ _ _ _ _ _ h1, absQ_fr]
    rfl) (by omega)
  have e : wipeE [a0, a1, a2, a3, a4, a5, a6, a7, some (riD rs r), a9, a10, a11, a12, a13, a14, a15, a16] [5] = [a0, a1, a2, a3, a4, none, a6, a7, some (riD rs r), a9, a10, a11, a12, a13, a14, a15, a16] := rfl
  rw [e, c]
  rfl
theorem abs_out (a0 a1 a2 a3 a4 a5 a9 a10 a11 a12 a13 a14 a15 a16 : Option D) (BO BA RI L N : D) (h : absIn [a0, a1, a2, a3, a4, a5, some BO, some BA, some RI, a9, a10, a11, a12, a13, a14, a15, a16] = .ok (L, [a0, a1, a2, a3, a4, a5, some BO, some BA, some RI, a9, a10, a11, a12, a13, a14, a15, a16])) (h2 : dictX L = .ok N) :
    eL gTup (eCons (eVar 6) (eCons (eL gTup (eCons (eRet (.int 2)) (eCons (eRet (.int 1)) eNil))) (eCons (e1 dictX absIn) eNil))) [a0, a1, a2, a3, a4, a5, some BO, some BA, some RI, a9, a10, a11, a12, a13, a14, a15, a16] = .ok (.tup [BO, .tup [.int 2, .int 1], N], [a0, a1, a2, a3, a4, a5, some BO, some BA, some RI, a9, a10, a11, a12, a13, a14, a15, a16]) := by
  simp only [ap_eL, ap_cons, ap_nil, ap_var, ap_ret, ap_e1, h, h2, List.getElem?_cons_succ, List.getElem?_cons_zero, gTup2, gTup3, ap_liftOk]
abbrev absC : EM D := eCompA [6, 7, 8] 4 (gTupT 3 (gsCons (gSet 6) (gsCons (gSet 7) (gsCons (gSet 8) gsNil)))) eYes (eL gTup (eCons (eVar 6) (eCons (eL gTup (eCons (eRet (.int 2)) (eCons (eRet (.int 1)) eNil))) (eCons (e1 dictX absIn) eNil))))
theorem absC_ok {S : List Str} {T : Str → Int} {E : List En} (h : ∀ e ∈ E, EnOk S T e) (hS : Names S) (hl : E.length < 1000) (a0 a1 a2 a3 a5 a9 a10 a11 a12 a13 a14 a15 a16 : Option D) : absC [a0, a1, a2, a3, some (.lst (E.map entD)), a5, none, none, none, a9, a10, a11, a12, a13, a14, a15, a16] = .ok (.lst ((E.map absE).map entD), [a0, a1, a2, a3, some (.lst (E.map entD)), a5, none, none, none, a9, a10, a11, a12, a13, a14, a15, a16]) := by
  unfold absC
  rw [compA_lst (ds := E.map entD) rfl]
  have c := compM_all (vs := [6, 7, 8]) (t := gTupT 3 (gsCons (gSet 6) (gsCons (gSet 7) (gsCons (gSet 8) gsNil)))) (e := eL gTup (eCons (eVar 6) (eCons (eL gTup (eCons (eRet (.int 2)) (eCons (eRet (.int 1)) eNil))) (eCons (e1 dictX absIn) eNil)))) (ρ0 := [a0, a1, a2, a3, some (.lst (E.map entD)), a5, none, none, none, a9, a10, a11, a12, a13, a14, a15, a16]) entD (fun e => entD (absE e)) E (fun e he => by
    have ok := h e he
    have nd : e.rs.Nodup := hS.nd.sublist ok.rs
    have ll := ok.rs.length_le
    have l3 := hS.l3
    refine ⟨[a0, a1, a2, a3, some (.lst (E.map entD)), a5, some (shD e.ks e.bx), some (frD e.base), some (riD e.rs e.r), a9, a10, a11, a12, a13, a14, a15, a16], rfl, ?_, rfl⟩
    have h2 : dictX (.lst (e.rs.map (tupS fun n => frD (absQ (e.r n))))) = .ok (riD e.rs fun n => absQ (e.r n)) := dictX_names nd
    exact abs_out _ _ _ _ _ _ _ _ _ _ _ _ _ _ _ _ _ _ _ (absIn_ok e.rs e.r (by omega) _ _ _ _ _ _ _ _ _ _ _ _ _ _ _ _) h2) (by omega)
  have e : wipeE [a0, a1, a2, a3, some (.lst (E.map entD)), a5, none, none, none, a9, a10, a11, a12, a13, a14, a15, a16] [6, 7, 8] = [a0, a1, a2, a3, some (.lst (E.map entD)), a5, none, none, none, a9, a10, a11, a12, a13, a14, a15, a16] := rfl
  rw [e, c]
  show Res.ok _ = _
  rw [List.map_map]
  rfl
/-! ### what is needed -/
theorem need_turn (a0 a2 a3 a4 a6 a7 a8 a9 a12 a13 a14 a15 a16 : Option D) (d d' N NE NE' : D) (t v : Int) (h1 : m_f_law_draw [d, .int (t + 1)] = .ok (.int v, [d', .int (t + 1)])) (h2 : setD1 NE N (.int v) = .ok NE') :
    l_law_1 [a0, some d, a2, a3, a4, some N, a6, a7, a8, a9, some NE, some (.int t), a12, a13, a14, a15, a16] = .ok (.nx, [a0, some d', a2, a3, a4, some N, a6, a7, a8, a9, some NE', some (.int t), a12, a13, a14, a15, a16]) := by
  unfold l_law_1
  simp [h1, h2]
theorem need_ok {ns : List Int} {S : List Str} {T : Str → Int} (hS : Names S) (hT : ∀ n ∈ S, 0 ≤ T n ∧ T n ≤ 10 ^ 6) (a0 a2 a4 a5 a6 a7 a8 a9 a11 a12 a13 a14 a15 a16 : Option D) (d : D) (p : PoolOk ns d) : ∃ nd d' i5 i11, forA 3 (gTupT 2 (gsCons (gSet 5) (gsCons (gSet 11) gsNil))) l_law_1 [a0, some d, a2, some (spD S T), a4, a5, a6, a7, a8, a9, some (.dic false []), a11, a12, a13, a14, a15, a16] =
      .ok (.nx, [a0, some d', a2, some (spD S T), a4, i5, a6, a7, a8, a9, some (bkD S nd), i11, a12, a13, a14, a15, a16]) ∧ PoolOk ns d' ∧ InSp S T nd := by
  obtain ⟨ρ', q1, nd, d', i5, i11, q2, q3, q4⟩ := forM_map_inv (t := gTupT 2 (gsCons (gSet 5) (gsCons (gSet 11) gsNil))) (b := l_law_1) (tupS fun n => .int (T n)) (fun k ρ => ∃ (nd : Str → Int) (d' : D) (i5 i11 : Option D), ρ = [a0, some d', a2, some (spD S T), a4, i5, a6, a7, a8, a9, some (bkD (S.take k) nd), i11, a12, a13, a14, a15, a16] ∧ PoolOk ns d' ∧ ∀ n ∈ S.take k, 0 ≤ nd n ∧ nd n ≤ T n) S
    [a0, some d, a2, some (spD S T), a4, a5, a6, a7, a8, a9, some (.dic false []), a11, a12, a13, a14, a15, a16] ⟨fun _ => 0, d, a5, a11, rfl, p, by simp⟩ fun k n ρ hk ⟨nd, d', i5, i11, e, p', hnd⟩ => by
      subst e
      have hn : n ∈ S := List.mem_of_getElem? hk
      have ht := hT n hn
      obtain ⟨v, d2, e1, p2, v0, v1⟩ := draw_ok (L := T n + 1) p' (by omega) (by omega)
      have nk : n ∉ S.take k := fun z => by
        have nd := hS.nd
        rw [← List.take_append_drop (k + 1) S, take_succ' hk] at nd
        exact (List.nodup_append.mp (List.nodup_append.mp nd).1).2.2 n z n (by simp) rfl
      refine ⟨[a0, some d', a2, some (spD S T), a4, some (.str n), a6, a7, a8, a9, some (bkD (S.take k) nd), some (.int (T n)), a12, a13, a14, a15, a16], _, rfl, need_turn _ _ _ _ _ _ _ _ _ _ _ _ _ _ _ _ _ _ _ _ e1 (set_bk nk (by have := hS.l3; rw [List.length_take]; omega)), setF nd n v, d2, some (.str n), some (.int (T n)), by rw [take_succ' hk], p2, fun m hm => ?_⟩
      rw [take_succ' hk] at hm
      unfold setF
      rcases List.mem_append.mp hm with hm | hm
      · have ne : ¬ m = n := fun e => nk (e ▸ hm)
        rw [if_neg ne]
        exact hnd m hm
      · cases List.mem_singleton.mp hm
        rw [if_pos rfl]
        omega
  rw [List.take_length] at q2 q4
  subst q2
  exact ⟨nd, d', i5, i11, (forA_lst (ds := S.map (tupS fun n => .int (T n))) rfl).trans q1, q3, q4⟩
end DL.G
namespace DL.G
open PySem PySem.Spec L2
set_option autoImplicit false
/-! ### the baskets to look at -/
theorem corn_turn (a0 a1 a2 a5 a6 a7 a8 a9 a11 a14 a15 a16 : Option D) (SP EN NE s0 s1 s2 : D) (M C R : List D) (h1 : rv (m_f_law_corners [SP, s0, NE]) = .ok (.lst C)) (h2 : addD (.lst M) (.lst C) = .ok (.lst R)) :
    l_law_2 [a0, a1, a2, some SP, some EN, a5, a6, a7, a8, a9, some NE, a11, some (.lst M), some (.tup [s0, s1, s2]), a14, a15, a16] = .ok (.nx, [a0, a1, a2, some SP, some EN, a5, a6, a7, a8, a9, some NE, a11, some (.lst R), some (.tup [s0, s1, s2]), a14, a15, a16]) := by
  unfold l_law_2
  simp [h1, h2]
theorem flat8 {L : List Str} (hl : L.length ≤ 3) (f : En → Bo) : ∀ E : List En, (E.flatMap fun e => cAll L (f e)).length ≤ 8 * E.length
  | [] => by simp
  | e :: E => by
    have h1 := cAll_len (f e) L
    have h2 : 2 ^ L.length ≤ 2 ^ 3 := Nat.pow_le_pow_right (by decide) hl
    have h3 := flat8 hl f E
    rw [List.flatMap_cons, List.length_append, List.length_cons]
    omega
theorem corn_ok {S : List Str} {T : Str → Int} {E : List En} (h : Lst S T E) (hS : Names S) (nd : Str → Int) (a0 a1 a2 a5 a6 a7 a8 a9 a11 a13 a14 a15 a16 : Option D) : ∃ i13, forA 4 (gSet 13) l_law_2 [a0, a1, a2, some (spD S T), some (.lst (E.map entD)), a5, a6, a7, a8, a9, some (bkD S nd), a11, some (.lst []), a13, a14, a15, a16] =
      .ok (.nx, [a0, a1, a2, some (spD S T), some (.lst (E.map entD)), a5, a6, a7, a8, a9, some (bkD S nd), a11, some (.lst ((E.flatMap fun e => cAll (strSort S) (cutB e.bx nd)).map (bkD (strSort S)))), i13, a14, a15, a16]) := by
  have hl3 : (strSort S).length ≤ 3 := by rw [strSort_len]; exact hS.l3
  obtain ⟨ρ', q1, i13, q2⟩ := forM_map_inv (t := gSet 13) (b := l_law_2) entD (fun k ρ => ∃ i13, ρ = [a0, a1, a2, some (spD S T), some (.lst (E.map entD)), a5, a6, a7, a8, a9, some (bkD S nd), a11, some (.lst (((E.take k).flatMap fun e => cAll (strSort S) (cutB e.bx nd)).map (bkD (strSort S)))), i13, a14, a15, a16]) E
    [a0, a1, a2, some (spD S T), some (.lst (E.map entD)), a5, a6, a7, a8, a9, some (bkD S nd), a11, some (.lst []), a13, a14, a15, a16] ⟨a13, rfl⟩ fun k e ρ hk ⟨i13, eq⟩ => by
      subst eq
      have he := List.mem_of_getElem? hk
      have ok := h.ok e he
      have c := corners_ok (S := S) (T := T) (K := e.ks) (b := e.bx) (need := nd) hS ok.wh
      have l1 := flat8 hl3 (fun e => cutB e.bx nd) (E.take k)
      have l2 := cAll_len (cutB e.bx nd) (strSort S)
      have l3 : 2 ^ (strSort S).length ≤ 2 ^ 3 := Nat.pow_le_pow_right (by decide) hl3
      have l4 := h.len
      have l5 : (E.take k).length ≤ 10 := by rw [List.length_take]; omega
      refine ⟨[a0, a1, a2, some (spD S T), some (.lst (E.map entD)), a5, a6, a7, a8, a9, some (bkD S nd), a11, some (.lst (((E.take k).flatMap fun e => cAll (strSort S) (cutB e.bx nd)).map (bkD (strSort S)))), some (entD e), a14, a15, a16], _, rfl,
        corn_turn _ _ _ _ _ _ _ _ _ _ _ _ _ _ _ _ _ _ _ _ _ c (addL_ok (by rw [List.length_map, List.length_map]; omega)), some (entD e), ?_⟩
      rw [take_succ' hk, List.flatMap_append, List.map_append]
      simp
      rfl
  rw [List.take_length] at q2
  subst q2
  exact ⟨i13, (forA_lst (ds := E.map entD) rfl).trans q1⟩
theorem keep_raw (a0 a1 a2 a3 a4 a5 a6 a7 a8 a9 a11 a12 a13 a15 a16 : Option D) (NE B : D) (L : List D) (k : Int)
    (h : eCompA [5] 10 (gSet 5) (e2 (cmpD fun i j => decide (i < j)) (e2 ixD (eVar 14) (eVar 5)) (e2 ixD (eVar 10) (eVar 5))) (eVar 5) [a0, a1, a2, a3, a4, a5, a6, a7, a8, a9, some NE, a11, a12, a13, some B, a15, a16] = .ok (.lst L, [a0, a1, a2, a3, a4, a5, a6, a7, a8, a9, some NE, a11, a12, a13, some B, a15, a16])) (hk : (L.length : Int) = k) :
    e2 eqD (e1 lenD (eCompA [5] 10 (gSet 5) (e2 (cmpD fun i j => decide (i < j)) (e2 ixD (eVar 14) (eVar 5)) (e2 ixD (eVar 10) (eVar 5))) (eVar 5))) (eRet (.int 0)) [a0, a1, a2, a3, a4, a5, a6, a7, a8, a9, some NE, a11, a12, a13, some B, a15, a16] = .ok (decide (k = 0), [a0, a1, a2, a3, a4, a5, a6, a7, a8, a9, some NE, a11, a12, a13, some B, a15, a16]) := by
  have hl : lenD (.lst L) = .ok (.int k) := by rw [← hk]; rfl
  simp only [ap_e2, ap_e1, h, hl, ap_liftOk, ap_ret, eqD_int]
theorem less_elem (a0 a1 a2 a3 a4 a6 a7 a8 a9 a11 a12 a13 a15 a16 : Option D) (NE B n : D) (x y : Int) (h1 : ixD B n = .ok (.int x)) (h2 : ixD NE n = .ok (.int y)) :
    e2 (cmpD fun i j => decide (i < j)) (e2 ixD (eVar 14) (eVar 5)) (e2 ixD (eVar 10) (eVar 5)) [a0, a1, a2, a3, a4, some n, a6, a7, a8, a9, some NE, a11, a12, a13, some B, a15, a16] = .ok (decide (x < y), [a0, a1, a2, a3, a4, some n, a6, a7, a8, a9, some NE, a11, a12, a13, some B, a15, a16]) := by
  simp [h1, h2]
def okB (S : List Str) (nd x : Str → Int) : Bool := S.all fun n => decide (nd n ≤ x n)
theorem keep_ok {S ks : List Str} {nd x : Str → Int} (hk : ∀ n ∈ S, n ∈ ks) (hl : S.length < 1000) (a0 a1 a2 a3 a4 a5 a6 a7 a8 a9 a11 a12 a13 a15 a16 : Option D) :
    e2 eqD (e1 lenD (eCompA [5] 10 (gSet 5) (e2 (cmpD fun i j => decide (i < j)) (e2 ixD (eVar 14) (eVar 5)) (e2 ixD (eVar 10) (eVar 5))) (eVar 5))) (eRet (.int 0)) [a0, a1, a2, a3, a4, a5, a6, a7, a8, a9, some (bkD S nd), a11, a12, a13, some (bkD ks x), a15, a16] = .ok (okB S nd x, [a0, a1, a2, a3, a4, a5, a6, a7, a8, a9, some (bkD S nd), a11, a12, a13, some (bkD ks x), a15, a16]) := by
  have c := compM_of (vs := [5]) (t := gSet 5) (c := e2 (cmpD fun i j => decide (i < j)) (e2 ixD (eVar 14) (eVar 5)) (e2 ixD (eVar 10) (eVar 5))) (e := eVar 5) (ρ0 := [a0, a1, a2, a3, a4, none, a6, a7, a8, a9, some (bkD S nd), a11, a12, a13, some (bkD ks x), a15, a16]) D.str (fun n => decide (x n < nd n)) D.str S [] (fun n hn =>
    ⟨[a0, a1, a2, a3, a4, some (.str n), a6, a7, a8, a9, some (bkD S nd), a11, a12, a13, some (bkD ks x), a15, a16], rfl, less_elem _ _ _ _ _ _ _ _ _ _ _ _ _ _ _ _ _ _ _ (ix_dS (hk n hn)) (ix_dS hn), fun _ => rfl, rfl⟩) (by simp; omega)
  rw [List.nil_append] at c
  have h : eCompA [5] 10 (gSet 5) (e2 (cmpD fun i j => decide (i < j)) (e2 ixD (eVar 14) (eVar 5)) (e2 ixD (eVar 10) (eVar 5))) (eVar 5) [a0, a1, a2, a3, a4, a5, a6, a7, a8, a9, some (bkD S nd), a11, a12, a13, some (bkD ks x), a15, a16] = .ok (.lst ((S.filter fun n => decide (x n < nd n)).map D.str), [a0, a1, a2, a3, a4, a5, a6, a7, a8, a9, some (bkD S nd), a11, a12, a13, some (bkD ks x), a15, a16]) := by
    rw [compA_dS (ks := S) (f := fun n => .int (nd n)) rfl]
    have e : wipeE [a0, a1, a2, a3, a4, a5, a6, a7, a8, a9, some (bkD S nd), a11, a12, a13, some (bkD ks x), a15, a16] [5] = [a0, a1, a2, a3, a4, none, a6, a7, a8, a9, some (bkD S nd), a11, a12, a13, some (bkD ks x), a15, a16] := rfl
    rw [e, c]
    rfl
  have r := keep_raw _ _ _ _ _ _ _ _ _ _ _ _ _ _ _ _ _ _ _ h rfl
  rw [r]
  congr 2
  unfold okB
  rw [Bool.eq_iff_iff, decide_eq_true_eq, List.all_eq_true]
  constructor
  · intro z n hn
    refine decide_eq_true (Classical.byContradiction fun c => ?_)
    have hm : n ∈ S.filter fun n => decide (x n < nd n) := List.mem_filter.mpr ⟨hn, decide_eq_true (by omega)⟩
    have : 0 < (S.filter fun n => decide (x n < nd n)).length := List.length_pos_of_mem hm
    rw [List.length_map] at z
    omega
  · intro z
    have : S.filter (fun n => decide (x n < nd n)) = [] := List.filter_eq_nil_iff.mpr fun n hn c => by
      have := of_decide_eq_true (z n hn)
      have := of_decide_eq_true c
      omega
    rw [this]
    rfl
abbrev keepC : EM D := eComp [14] (e1 gItems (eCall [none] m_f_law_baskets (eCons (eVar 3) eNil))) (gSet 14) (e2 eqD (e1 lenD (eCompA [5] 10 (gSet 5) (e2 (cmpD fun i j => decide (i < j)) (e2 ixD (eVar 14) (eVar 5)) (e2 ixD (eVar 10) (eVar 5))) (eVar 5))) (eRet (.int 0))) (eVar 14)
theorem keepC_ok {S : List Str} {T : Str → Int} (hS : Names S) (hT : ∀ n ∈ S, 0 ≤ T n ∧ T n ≤ 3) (nd : Str → Int) (a0 a1 a2 a4 a5 a6 a7 a8 a9 a11 a12 a13 a15 a16 : Option D) :
    keepC [a0, a1, a2, some (spD S T), a4, a5, a6, a7, a8, a9, some (bkD S nd), a11, a12, a13, none, a15, a16] = .ok (.lst (((bAll (strSort S) T).filter (okB S nd)).map (bkD (strSort S))), [a0, a1, a2, some (spD S T), a4, a5, a6, a7, a8, a9, some (bkD S nd), a11, a12, a13, none, a15, a16]) := by
  have hb := baskets_ok hS (T := T) fun n hn => by have := hT n hn; omega
  have hm2 : ∀ n ∈ S, n ∈ strSort S := fun n h => strSort_mem.mpr h
  have hlen : (bAll (strSort S) T).length ≤ 4 ^ 3 := by
    have h1 := bAll_len (T := T) (t := 3) (strSort S) fun m hm' => (hT m (strSort_mem.mp hm')).2
    exact Nat.le_trans h1 (Nat.pow_le_pow_right (by decide) (by rw [strSort_len]; exact hS.l3))
  have l3 := hS.l3
  generalize strSort S = L at hb hm2 hlen
  have c := compM_of (vs := [14]) (t := gSet 14) (c := e2 eqD (e1 lenD (eCompA [5] 10 (gSet 5) (e2 (cmpD fun i j => decide (i < j)) (e2 ixD (eVar 14) (eVar 5)) (e2 ixD (eVar 10) (eVar 5))) (eVar 5))) (eRet (.int 0))) (e := eVar 14) (ρ0 := [a0, a1, a2, some (spD S T), a4, a5, a6, a7, a8, a9, some (bkD S nd), a11, a12, a13, none, a15, a16]) (bkD L) (okB S nd) (bkD L) (bAll L T) [] (fun x _ =>
    ⟨[a0, a1, a2, some (spD S T), a4, a5, a6, a7, a8, a9, some (bkD S nd), a11, a12, a13, some (bkD L x), a15, a16], rfl, keep_ok hm2 (by omega) _ _ _ _ _ _ _ _ _ _ _ _ _ _ _, fun _ => rfl, rfl⟩) (by simp; omega)
  rw [List.nil_append] at c
  generalize (bAll L T).map (bkD L) = X at hb c
  unfold keepC
  have e : wipeE [a0, a1, a2, some (spD S T), a4, a5, a6, a7, a8, a9, some (bkD S nd), a11, a12, a13, none, a15, a16] [14] = [a0, a1, a2, some (spD S T), a4, a5, a6, a7, a8, a9, some (bkD S nd), a11, a12, a13, none, a15, a16] := rfl
  have q : e1 gItems (eCall [none] m_f_law_baskets (eCons (eVar 3) eNil)) [a0, a1, a2, some (spD S T), a4, a5, a6, a7, a8, a9, some (bkD S nd), a11, a12, a13, none, a15, a16] = .ok (X, [a0, a1, a2, some (spD S T), a4, a5, a6, a7, a8, a9, some (bkD S nd), a11, a12, a13, none, a15, a16]) := by
    generalize bkD S nd = NE
    generalize spD S T = SP at hb
    simp [hb]
  rw [ap_comp, q]
  dsimp only
  rw [e, c]
  rfl
end DL.G
namespace DL.G
open PySem PySem.Spec L2
set_option autoImplicit false
theorem st_next (a0 a2 a3 a4 a5 a6 a7 a8 a9 a10 a11 a12 a13 a14 a15 a16 : Option D) (d d1 : D) (h : m_f_law_next [d] = .ok (.non, [d1])) : sDrop (eCall [some 1] m_f_law_next (eConsO 1 eNil)) [a0, some d, a2, a3, a4, a5, a6, a7, a8, a9, a10, a11, a12, a13, a14, a15, a16] = .ok (.nx, [a0, some d1, a2, a3, a4, a5, a6, a7, a8, a9, a10, a11, a12, a13, a14, a15, a16]) := by
  simp [h]
theorem st_check (a0 a1 a2 a5 a6 a7 a8 a9 a11 a13 a14 a15 a16 : Option D) (SP EN NE B X Y : D) (h0 : dictD NE = .ok NE) (h1 : rv (m_cheapest_cover [SP, EN, NE]) = .ok X) (h2 : rv (m_f_law_best [EN, B]) = .ok Y) (h3 : rv (m_f_law_same 8 [X, Y]) = .ok (.bl true)) :
    sIf (eNot (e1 gBl (eCall [none, none] (m_f_law_same 8) (eCons (eCall [none, none, none] m_cheapest_cover (eCons (eVar 3) (eCons (eVar 4) (eCons (e1 dictD (eVar 10)) eNil)))) (eCons (eCall [none, none] m_f_law_best (eCons (eVar 4) (eCons (eVar 12) eNil))) eNil)))))
      (sSeq (sRet (eRet (.bl false))) sNil) sNil [a0, a1, a2, some SP, some EN, a5, a6, a7, a8, a9, some NE, a11, some B, a13, a14, a15, a16] = .ok (.nx, [a0, a1, a2, some SP, some EN, a5, a6, a7, a8, a9, some NE, a11, some B, a13, a14, a15, a16]) := by
  simp [h0, h1, h2, h3]
theorem st_great {b : Bool} (A B : SM) (a0 a1 a3 a4 a5 a6 a7 a8 a9 a10 a11 a12 a13 a14 a15 a16 : Option D) : sIf (e1 truD (eVar 2)) A B [a0, a1, some (.bl b), a3, a4, a5, a6, a7, a8, a9, a10, a11, a12, a13, a14, a15, a16] = (if b = true then A [a0, a1, some (.bl b), a3, a4, a5, a6, a7, a8, a9, a10, a11, a12, a13, a14, a15, a16] else B [a0, a1, some (.bl b), a3, a4, a5, a6, a7, a8, a9, a10, a11, a12, a13, a14, a15, a16]) := by
  cases b <;> simp
theorem cut_pick {S : List Str} {T : Str → Int} {E : List En} (h : Lst S T E) {nd : Str → Int} (hn : InSp S T nd) (hS : Names S) : (∀ b ∈ (E.flatMap fun e => cAll (strSort S) (cutB e.bx nd)), InSp S T b ∧ ∀ n ∈ S, nd n ≤ b n) ∧ ∀ e ∈ E, ∀ x, pickE S T nd e = some x → ∃ b ∈ (E.flatMap fun e => cAll (strSort S) (cutB e.bx nd)), ∀ n ∈ S, b n = x n := by
  have hL : (strSort S).Nodup := strSort_nodup.mpr hS.nd
  refine ⟨fun b hb => ?_, fun e he x hx => ?_⟩
  · obtain ⟨e, he, hbe⟩ := List.mem_flatMap.mp hb
    obtain ⟨h1, _⟩ := (cAll_mem _ hL b).mp hbe
    have pe := h.part.ok e.bx (List.mem_map.mpr ⟨e, he, rfl⟩)
    have key : ∀ n ∈ S, nd n ≤ b n ∧ 0 ≤ b n ∧ b n ≤ T n := fun n hn' => by
      obtain ⟨q1, q2⟩ := h1 n (strSort_mem.mpr hn')
      change max (e.bx.lo n) (nd n) ≤ e.bx.hi n at q1
      change b n = max (e.bx.lo n) (nd n) ∨ b n = e.bx.hi n at q2
      have := pe n hn'
      have := hn n hn'
      omega
    exact ⟨fun n hn' => (key n hn').2, fun n hn' => (key n hn').1⟩
  · have pe := h.part.ok e.bx (List.mem_map.mpr ⟨e, he, rfl⟩)
    unfold pickE at hx
    split at hx
    · rename_i hb
      cases hx
      refine ⟨fun n => if n ∈ S then hiF (fun n => 0 - e.r n) (bcap e.bx (needB T nd)) n else 0, List.mem_flatMap.mpr ⟨e, he, (cAll_mem _ hL _).mpr ⟨fun n hn' => ?_, fun n hn' => ?_⟩⟩, fun n hn' => if_pos hn'⟩
      · have hnS := strSort_mem.mp hn'
        have q := of_decide_eq_true (List.all_eq_true.mp hb n hnS)
        change max (e.bx.lo n) (nd n) ≤ min (e.bx.hi n) (T n) at q
        have p := pe n hnS
        show max (e.bx.lo n) (nd n) ≤ e.bx.hi n ∧ ((if n ∈ S then hiF (fun n => 0 - e.r n) (bcap e.bx (needB T nd)) n else 0) = max (e.bx.lo n) (nd n) ∨ (if n ∈ S then hiF (fun n => 0 - e.r n) (bcap e.bx (needB T nd)) n else 0) = e.bx.hi n)
        rw [if_pos hnS]
        refine ⟨by omega, ?_⟩
        unfold hiF
        split
        · right
          show min (e.bx.hi n) (T n) = e.bx.hi n
          omega
        · left
          rfl
      · have : n ∉ S := fun z => hn' (strSort_mem.mpr z)
        exact if_neg this
    · cases hx
theorem all_pick {S : List Str} {T : Str → Int} {E : List En} (h : Lst S T E) {nd : Str → Int} (hn : InSp S T nd) (hS : Names S) : (∀ b ∈ (bAll (strSort S) T).filter (okB S nd), InSp S T b ∧ ∀ n ∈ S, nd n ≤ b n) ∧ ∀ e ∈ E, ∀ x, pickE S T nd e = some x → ∃ b ∈ (bAll (strSort S) T).filter (okB S nd), ∀ n ∈ S, b n = x n := by
  have hL : (strSort S).Nodup := strSort_nodup.mpr hS.nd
  have hT : ∀ n ∈ strSort S, 0 ≤ T n := fun n hn' => by have := hn n (strSort_mem.mp hn'); omega
  refine ⟨fun b hb => ?_, fun e he x hx => ?_⟩
  · obtain ⟨h1, h2⟩ := List.mem_filter.mp hb
    obtain ⟨h3, _⟩ := (bAll_mem _ hL hT b).mp h1
    exact ⟨fun n hn' => h3 n (strSort_mem.mpr hn'), fun n hn' => of_decide_eq_true (List.all_eq_true.mp h2 n hn')⟩
  · obtain ⟨px, _⟩ := pickE_spec hx
    refine ⟨fun n => if n ∈ S then x n else 0, List.mem_filter.mpr ⟨(bAll_mem _ hL hT _).mpr ⟨fun n hn' => ?_, fun n hn' => ?_⟩, List.all_eq_true.mpr fun n hn' => decide_eq_true ?_⟩, fun n hn' => if_pos hn'⟩
    · have hnS := strSort_mem.mp hn'
      have := px n hnS
      have := hn n hnS
      show 0 ≤ (if n ∈ S then x n else 0) ∧ (if n ∈ S then x n else 0) ≤ T n
      rw [if_pos hnS]
      omega
    · have : n ∉ S := fun z => hn' (strSort_mem.mpr z)
      exact if_neg this
    · show nd n ≤ if n ∈ S then x n else 0
      rw [if_pos hn']
      exact (px n hn').1
theorem turn_ok {ns : List Int} {S : List Str} {T : Str → Int} {E : List En} (h : Lst S T E) (hS : Names S) (hT : ∀ n ∈ S, 0 ≤ T n ∧ T n ≤ 10 ^ 6) {b : Bool} (hb : b = false → ∀ n ∈ S, T n ≤ 3) (a0 a5 a6 a7 a8 a9 a10 a11 a12 a13 a15 a16 : Option D) (d : D) (p : PoolOk ns d) :
    ∃ d' i5 i10 i11 i12 i13, l_law_3 [a0, some d, some (.bl b), some (spD S T), some (.lst (E.map entD)), a5, a6, a7, a8, a9, a10, a11, a12, a13, none, a15, a16] = .ok (.nx, [a0, some d', some (.bl b), some (spD S T), some (.lst (E.map entD)), i5, a6, a7, a8, a9, i10, i11, i12, i13, none, a15, a16]) ∧ PoolOk ns d' := by
  obtain ⟨d1, x1, p1⟩ := next_ok p
  obtain ⟨nd, d2, i5, i11, x2, p2, hn⟩ := need_ok hS hT a0 (some (.bl b)) (some (.lst (E.map entD))) a5 a6 a7 a8 a9 a11 a12 a13 none a15 a16 d1 p1
  have hT7 : ∀ n ∈ S, T n ≤ 10 ^ 7 := fun n hn => by have := hT n hn; omega
  have cc := cheapest_ok h hS hT7 hn (ks := S) fun n h => h
  obtain ⟨B, i13, hB, hB1, hB2⟩ : ∃ (B : List (Str → Int)) (i13 : Option D), sIf (e1 truD (eVar 2)) (sSeq (forA 4 (gSet 13) l_law_2) sNil) (sSeq (sSet 12 keepC) sNil) [a0, some d2, some (.bl b), some (spD S T), some (.lst (E.map entD)), i5, a6, a7, a8, a9, some (bkD S nd), i11, some (.lst []), a13, none, a15, a16] =
      .ok (.nx, [a0, some d2, some (.bl b), some (spD S T), some (.lst (E.map entD)), i5, a6, a7, a8, a9, some (bkD S nd), i11, some (.lst (B.map (bkD (strSort S)))), i13, none, a15, a16]) ∧ (∀ b ∈ B, InSp S T b ∧ ∀ n ∈ S, nd n ≤ b n) ∧ ∀ e ∈ E, ∀ x, pickE S T nd e = some x → ∃ b ∈ B, ∀ n ∈ S, b n = x n := by
    rw [st_great]
    cases b with
    | true =>
      obtain ⟨i13, c⟩ := corn_ok h hS nd a0 (some d2) (some (.bl true)) i5 a6 a7 a8 a9 i11 a13 none a15 a16
      obtain ⟨c1, c2⟩ := cut_pick h hn hS
      refine ⟨_, i13, ?_, c1, c2⟩
      rw [if_pos rfl, seq_nx c]
      rfl
    | false =>
      have k := keepC_ok hS (fun n hn => ⟨(hT n hn).1, hb rfl n hn⟩) nd a0 (some d2) (some (.bl false)) (some (.lst (E.map entD))) i5 a6 a7 a8 a9 i11 (some (.lst [])) a13 a15 a16
      obtain ⟨c1, c2⟩ := all_pick h hn hS
      refine ⟨_, a13, ?_, c1, c2⟩
      rw [if_neg Bool.false_ne_true]
      have s : sSet 12 keepC [a0, some d2, some (.bl false), some (spD S T), some (.lst (E.map entD)), i5, a6, a7, a8, a9, some (bkD S nd), i11, some (.lst []), a13, none, a15, a16] = .ok (.nx, [a0, some d2, some (.bl false), some (spD S T), some (.lst (E.map entD)), i5, a6, a7, a8, a9, some (bkD S nd), i11, some (.lst (((bAll (strSort S) T).filter (okB S nd)).map (bkD (strSort S)))), a13, none, a15, a16]) := by
        rw [ap_set, k]
        rfl
      rw [seq_nx s]
      rfl
  have bo := best_ok h hS (strSort_perm S) hT7 (B := B) fun x hx => (hB1 x hx).1
  obtain ⟨same, _⟩ := cover_same h hS hn hB1 hB2
  have ck := st_check a0 (some d2) (some (.bl b)) i5 a6 a7 a8 a9 i11 i13 none a15 a16 _ _ _ _ _ _ rfl cc bo same
  refine ⟨d2, i5, some (bkD S nd), i11, some (.lst (B.map (bkD (strSort S)))), i13, ?_, p2⟩
  unfold l_law_3
  rw [seq_nx (st_next _ _ _ _ _ _ _ _ _ _ _ _ _ _ _ _ _ _ x1)]
  rw [seq_nx (show sSet 10 (eRet (.dic false [])) [a0, some d1, some (.bl b), some (spD S T), some (.lst (E.map entD)), a5, a6, a7, a8, a9, a10, a11, a12, a13, none, a15, a16] = .ok (.nx, [a0, some d1, some (.bl b), some (spD S T), some (.lst (E.map entD)), a5, a6, a7, a8, a9, some (.dic false []), a11, a12, a13, none, a15, a16]) from rfl)]
  rw [seq_nx x2]
  rw [seq_nx (show sSet 12 (eL gLst eNil) [a0, some d2, some (.bl b), some (spD S T), some (.lst (E.map entD)), i5, a6, a7, a8, a9, some (bkD S nd), i11, a12, a13, none, a15, a16] = .ok (.nx, [a0, some d2, some (.bl b), some (spD S T), some (.lst (E.map entD)), i5, a6, a7, a8, a9, some (bkD S nd), i11, some (.lst []), a13, none, a15, a16]) from by simp)]
  rw [seq_nx hB]
  rw [seq_nx ck]
  rfl
end DL.G
namespace DL.G
open PySem PySem.Spec L2
set_option autoImplicit false
/-! ### the ending -/
theorem own_turn (a0 a1 a2 a5 a6 a7 a8 a9 a10 a11 a12 a13 a15 : Option D) (SP EN BK q R p : D) (o k : Bool) (h1 : rv (m_cheapest_cover [SP, EN, BK]) = .ok (.tup [q, R])) (h2 : rv (m_f_law_price [EN, BK]) = .ok p) (h3 : eqD q p = .ok k) :
    l_law_4 [a0, a1, a2, some SP, some EN, a5, a6, a7, a8, a9, a10, a11, a12, a13, some BK, a15, some (.bl o)] = .ok (.nx, [a0, a1, a2, some SP, some EN, a5, a6, a7, a8, a9, a10, a11, a12, a13, some BK, a15, some (.bl (o && k))]) := by
  unfold l_law_4
  cases o
  · simp
  · simp [h1, h2, h3]
section
variable {S : List Str} {T : Str → Int} {E : List En}
theorem own_ok (h : Lst S T E) (hS : Names S) (hT : ∀ n ∈ S, 0 ≤ T n ∧ T n ≤ 3) (a0 a1 a2 a5 a6 a7 a8 a9 a10 a11 a12 a13 a14 a15 : Option D) : ∃ o i14, forM (gSet 14) l_law_4 ((bAll (strSort S) T).map (bkD (strSort S))) [a0, a1, a2, some (spD S T), some (.lst (E.map entD)), a5, a6, a7, a8, a9, a10, a11, a12, a13, a14, a15, some (.bl true)] =
      .ok (.nx, [a0, a1, a2, some (spD S T), some (.lst (E.map entD)), a5, a6, a7, a8, a9, a10, a11, a12, a13, i14, a15, some (.bl o)]) ∧ (o = true ↔ ∀ x n, ¬ Fall S T E x n) := by
  have hL : (strSort S).Nodup := strSort_nodup.mpr hS.nd
  have hT7 : ∀ n ∈ S, T n ≤ 10 ^ 7 := fun n hn => by have := hT n hn; omega
  have hTL : ∀ n ∈ strSort S, 0 ≤ T n := fun n hn => (hT n (strSort_mem.mp hn)).1
  have hks : ∀ n ∈ S, n ∈ strSort S := fun n h => strSort_mem.mpr h
  -- what a basket adds
  have one : ∀ x, InSp S T x → ∃ p, (E.filterMap (pickE S T x)).foldl (pickB (priceE S E) (strSort S)) none = some p ∧ (∀ n ∈ S, x n ≤ p n ∧ p n ≤ T n) ∧ ∀ y, InSp S T y → (∀ n ∈ S, x n ≤ y n) → priceE S E p ≤ priceE S E y := fun x hx => cover_least h hx
  let good : (Str → Int) → Prop := fun x => ∀ y, InSp S T y → (∀ n ∈ S, x n ≤ y n) → priceE S E x ≤ priceE S E y
  obtain ⟨ρ', q1, o, i14, q2, q3⟩ := forM_map_inv (t := gSet 14) (b := l_law_4) (bkD (strSort S)) (fun k ρ => ∃ o i14, ρ = [a0, a1, a2, some (spD S T), some (.lst (E.map entD)), a5, a6, a7, a8, a9, a10, a11, a12, a13, i14, a15, some (.bl o)] ∧ (o = true ↔ ∀ x ∈ (bAll (strSort S) T).take k, good x)) (bAll (strSort S) T)
    [a0, a1, a2, some (spD S T), some (.lst (E.map entD)), a5, a6, a7, a8, a9, a10, a11, a12, a13, a14, a15, some (.bl true)] ⟨true, a14, rfl, by simp⟩ fun k x ρ hk ⟨o, i14, e, ho⟩ => by
      subst e
      have hxm := List.mem_of_getElem? hk
      have hx : InSp S T x := fun n hn => ((bAll_mem _ hL hTL x).mp hxm).1 n (hks n hn)
      obtain ⟨p, p1, p2, p3⟩ := one x hx
      have c1 := cheapest_ok h hS hT7 hx hks
      rw [p1] at c1
      have c2 := h.price_ok hS hks hx hT7
      have tn := own_turn a0 a1 a2 a5 a6 a7 a8 a9 a10 a11 a12 a13 a15 _ _ _ _ _ _ o _ c1 c2 (eqFr _ _)
      refine ⟨_, _, rfl, tn, _, some (bkD (strSort S) x), rfl, ?_⟩
      have hpS : InSp S T p := fun n hn => by have := p2 n hn; have := hx n hn; omega
      have gx : priceE S E p = priceE S E x ↔ good x := by
        constructor
        · intro e y hy hle
          rw [← e]
          exact p3 y hy hle
        · intro g
          have g1 := g p hpS fun n hn => (p2 n hn).1
          have g2 := p3 x hx fun n _ => Int.le_refl _
          grind
      rw [Bool.and_eq_true, decide_eq_true_eq, gx, ho, take_succ' hk]
      constructor
      · rintro ⟨g1, g2⟩ y hy
        rcases List.mem_append.mp hy with hy | hy
        · exact g1 y hy
        · cases List.mem_singleton.mp hy
          exact g2
      · intro g
        exact ⟨fun y hy => g y (List.mem_append_left _ hy), g x (List.mem_append_right _ List.mem_cons_self)⟩
  rw [List.take_length] at q3
  refine ⟨o, i14, by rw [q1, q2], q3.trans ⟨fun g x n hf => ?_, fun g x hx y hy hle => ?_⟩⟩
  · obtain ⟨hn, hx, hi, hlt⟩ := hf
    have m : (fun m => if m ∈ S then x m else 0) ∈ bAll (strSort S) T := (bAll_mem _ hL hTL _).mpr ⟨fun m hm => by
      have hmS := strSort_mem.mp hm
      show 0 ≤ (if m ∈ S then x m else 0) ∧ (if m ∈ S then x m else 0) ≤ T m
      rw [if_pos hmS]
      exact hx m hmS, fun m hm => if_neg fun z => hm (hks m z)⟩
    have gx := g _ m (incF x n) hi fun m hm => by
      show (if m ∈ S then x m else 0) ≤ incF x n m
      rw [if_pos hm]
      unfold incF setF
      split
      · rename_i e
        subst e
        omega
      · exact Int.le_refl _
    have ep : priceE S E (fun m => if m ∈ S then x m else 0) = priceE S E x := price_congr h fun m hm => if_pos hm
    rw [ep] at gx
    grind
  · have hxS : InSp S T x := fun n hn => ((bAll_mem _ hL hTL x).mp hx).1 n (hks n hn)
    exact up_path h g _ x y (Nat.le_refl _) hxS hy hle
end
theorem end_great (a0 a1 a5 a6 a7 a8 a9 a10 a11 a12 a13 a14 a15 a16 : Option D) (SP EN : D) (h1 : rv (m_falls [SP, EN]) = .ok .non) :
    (sSeq (sSet 15 (eCall [none, none] m_falls (eCons (eVar 3) (eCons (eVar 4) eNil)))) (sSeq (sRet (eBl (eOr (e2 isC (eVar 15) (eRet .non)) (eAsB (eCall [none, none] m_f_law_less (eCons (e2 ixD (eCall [none, none, none] m_cheapest_cover (eCons (eVar 3) (eCons (eVar 4) (eCons (e2 ixD (eVar 15) (eRet (.int 0))) eNil)))) (eRet (.int 0))) (eCons (eCall [none, none] m_f_law_price (eCons (eVar 4) (eCons (e2 ixD (eVar 15) (eRet (.int 0))) eNil))) eNil))))))) sNil)) [a0, a1, some (.bl true), some SP, some EN, a5, a6, a7, a8, a9, a10, a11, a12, a13, a14, a15, a16] =
      .ok (.rt (.bl true), [a0, a1, some (.bl true), some SP, some EN, a5, a6, a7, a8, a9, a10, a11, a12, a13, a14, some .non, a16]) := by
  simp [h1]
theorem end_great2 (a0 a1 a5 a6 a7 a8 a9 a10 a11 a12 a13 a14 a15 a16 : Option D) (SP EN BK N q R p : D) (h1 : rv (m_falls [SP, EN]) = .ok (.tup [BK, N])) (h2 : rv (m_cheapest_cover [SP, EN, BK]) = .ok (.tup [q, R])) (h3 : rv (m_f_law_price [EN, BK]) = .ok p) (h4 : rv (m_f_law_less [q, p]) = .ok (.bl true)) :
    (sSeq (sSet 15 (eCall [none, none] m_falls (eCons (eVar 3) (eCons (eVar 4) eNil)))) (sSeq (sRet (eBl (eOr (e2 isC (eVar 15) (eRet .non)) (eAsB (eCall [none, none] m_f_law_less (eCons (e2 ixD (eCall [none, none, none] m_cheapest_cover (eCons (eVar 3) (eCons (eVar 4) (eCons (e2 ixD (eVar 15) (eRet (.int 0))) eNil)))) (eRet (.int 0))) (eCons (eCall [none, none] m_f_law_price (eCons (eVar 4) (eCons (e2 ixD (eVar 15) (eRet (.int 0))) eNil))) eNil))))))) sNil)) [a0, a1, some (.bl true), some SP, some EN, a5, a6, a7, a8, a9, a10, a11, a12, a13, a14, a15, a16] =
      .ok (.rt (.bl true), [a0, a1, some (.bl true), some SP, some EN, a5, a6, a7, a8, a9, a10, a11, a12, a13, a14, some (.tup [BK, N]), a16]) := by
  simp [h1, h2, h3, h4]
theorem end_small (a0 a1 a2 a5 a6 a7 a8 a9 a10 a11 a12 a13 a14 a15 : Option D) (SP EN F : D) (k o : Bool) (h1 : rv (m_falls [SP, EN]) = .ok F) (h2 : isC F .non = .ok k) (h3 : (k == o) = true) :
    sRet (eBl (e2 eqD (eBl (e2 isC (eCall [none, none] m_falls (eCons (eVar 3) (eCons (eVar 4) eNil))) (eRet .non))) (eVar 16))) [a0, a1, a2, some SP, some EN, a5, a6, a7, a8, a9, a10, a11, a12, a13, a14, a15, some (.bl o)] = .ok (.rt (.bl true), [a0, a1, a2, some SP, some EN, a5, a6, a7, a8, a9, a10, a11, a12, a13, a14, a15, some (.bl o)]) := by
  simp [h1, h2, h3]
end DL.G
namespace DL.G
open PySem PySem.Spec L2
set_option autoImplicit false
theorem ls_1 (A d0 : D) (h : rv (m_f_law_pool [A]) = .ok d0) : sSet 1 (eCall [none] m_f_law_pool (eCons (eVar 0) eNil)) [some A, none, none, none, none, none, none, none, none, none, none, none, none, none, none, none, none] = .ok (.nx, [some A, some d0, none, none, none, none, none, none, none, none, none, none, none, none, none, none, none]) := by
  simp [h]
theorem ls_2 (A d0 d1 : D) (v : Int) (b : Bool) (h : m_f_law_draw [d0, .int 2] = .ok (.int v, [d1, .int 2])) (hb : decide (v = 0) = b) : sSet 2 (eBl (e2 eqD (eCall [some 1, none] m_f_law_draw (eConsO 1 (eCons (eRet (.int 2)) eNil))) (eRet (.int 0)))) [some A, some d0, none, none, none, none, none, none, none, none, none, none, none, none, none, none, none] = .ok (.nx, [some A, some d1, some (.bl b), none, none, none, none, none, none, none, none, none, none, none, none, none, none]) := by
  simp [h, hb]
theorem ls_3 (A d1 d2 SP : D) (b : Bool) (h : m_f_law_space [d1, .int 3, .int (if b = true then 1000000 else 3)] = .ok (SP, [d2, .int 3, .int (if b = true then 1000000 else 3)])) : sSet 3 (eCall [some 1, none, none] m_f_law_space (eConsO 1 (eCons (eRet (.int 3)) (eCons (eIf (e1 truD (eVar 2)) (e2 powD (eRet (.int 10)) (eRet (.int 6))) (eRet (.int 3))) eNil)))) [some A, some d1, some (.bl b), none, none, none, none, none, none, none, none, none, none, none, none, none, none] = .ok (.nx, [some A, some d2, some (.bl b), some SP, none, none, none, none, none, none, none, none, none, none, none, none, none]) := by
  have hp : powD (.int 10) (.int 6) = .ok (.int 1000000) := by
    first
      | rfl
      | decide +kernel
  cases b
  · simp at h
    simp [h]
  · simp at h
    simp [hp, h]
theorem ls_4 (A d2 d3 SP EN b : D) (h : m_f_law_entries [d2, SP, .int 5] = .ok (EN, [d3, SP, .int 5])) : sSet 4 (eCall [some 1, none, none] m_f_law_entries (eConsO 1 (eCons (eVar 3) (eCons (eRet (.int 5)) eNil)))) [some A, some d2, some b, some SP, none, none, none, none, none, none, none, none, none, none, none, none, none] = .ok (.nx, [some A, some d3, some b, some SP, some EN, none, none, none, none, none, none, none, none, none, none, none, none]) := by
  simp [h]
theorem ls_5 (A d3 d4 SP EN EN' b : D) (w : Int) (h : m_f_law_draw [d3, .int 3] = .ok (.int w, [d4, .int 3])) (hc : absC [some A, some d4, some b, some SP, some EN, none, none, none, none, none, none, none, none, none, none, none, none] = .ok (EN', [some A, some d4, some b, some SP, some EN, none, none, none, none, none, none, none, none, none, none, none, none])) :
    sIf (e2 eqD (eCall [some 1, none] m_f_law_draw (eConsO 1 (eCons (eRet (.int 3)) eNil))) (eRet (.int 0))) (sSeq (sSet 4 absC) sNil) sNil [some A, some d3, some b, some SP, some EN, none, none, none, none, none, none, none, none, none, none, none, none] =
      .ok (.nx, [some A, some d4, some b, some SP, some (if w = 0 then EN' else EN), none, none, none, none, none, none, none, none, none, none, none, none]) := by
  have q : e2 eqD (eCall [some 1, none] m_f_law_draw (eConsO 1 (eCons (eRet (.int 3)) eNil))) (eRet (.int 0)) [some A, some d3, some b, some SP, some EN, none, none, none, none, none, none, none, none, none, none, none, none] = .ok (decide (w = 0), [some A, some d4, some b, some SP, some EN, none, none, none, none, none, none, none, none, none, none, none, none]) := by
    simp [h]
  rw [ap_sif, q]
  dsimp only
  by_cases c : w = 0
  · rw [if_pos c, if_pos (decide_eq_true c), ap_seq, ap_set, hc]
    rfl
  · rw [if_neg c, if_neg (by simpa using c)]
    rfl
theorem law_ok (ns : List Int) : rv (m_law [.lst (ns.map .int)]) = .ok (.bl true) := by
  obtain ⟨d0, x0, p0⟩ := pool_ok ns
  obtain ⟨v, d1, x1, p1, _, _⟩ := draw_ok (L := 2) p0 (by decide) (by decide)
  obtain ⟨b, hb⟩ : ∃ b, decide (v = 0) = b := ⟨_, rfl⟩
  obtain ⟨S, T, d2, x2, p2, hS, _, hT⟩ := space_ok (most := 3) (top := if b = true then 1000000 else 3) p1 (by decide) (by decide) (by split <;> decide) (by split <;> decide)
  have hT6 : ∀ n ∈ S, 0 ≤ T n ∧ T n ≤ 10 ^ 6 := fun n hn => by
    have := hT n hn
    refine ⟨this.1, ?_⟩
    have h2 := this.2
    split at h2 <;> omega
  have hg : b = false → ∀ n ∈ S, T n ≤ 3 := fun z n hn => by
    have := (hT n hn).2
    rw [z] at this
    exact this
  have hT7 : ∀ n ∈ S, T n ≤ 10 ^ 7 := fun n hn => by have := hT6 n hn; omega
  obtain ⟨E0, d3, x3, p3, hE0, hP0, hl0⟩ := entries_ok (S := S) (T := T) p2 hS (fun n hn => by have := hT6 n hn; omega) (many := 5) (by decide)
  obtain ⟨w, d4, x4, p4, _, _⟩ := draw_ok (L := 3) p3 (by decide) (by decide)
  have hc := absC_ok hE0 hS (by omega) (some (.lst (ns.map .int))) (some d4) (some (.bl b)) (some (spD S T)) none none none none none none none none none
  obtain ⟨E, hE, h⟩ : ∃ E : List En, (if w = 0 then D.lst ((E0.map absE).map entD) else .lst (E0.map entD)) = .lst (E.map entD) ∧ Lst S T E := by
    by_cases c : w = 0
    · refine ⟨E0.map absE, if_pos c, fun e he => ?_, ?_, by rw [List.length_map]; omega⟩
      · obtain ⟨e0, h0, rfl⟩ := List.mem_map.mp he
        exact absE_ok (hE0 e0 h0)
      · rw [List.map_map]
        exact hP0
    · exact ⟨E0, if_neg c, hE0, hP0, by omega⟩
  have hr : rng1D (.int 4) = .ok (rngL 0 4) := rng1_ok (by decide)
  obtain ⟨ρ', q1, d', i5, i9, i10, i11, i12, i13, q2, _⟩ := for_rng (t := gSet 9) (b := l_law_3) 0 4 (fun k ρ => ∃ (d : D) (i5 i9 i10 i11 i12 i13 : Option D), ρ = [some (.lst (ns.map .int)), some d, some (.bl b), some (spD S T), some (.lst (E.map entD)), i5, none, none, none, i9, i10, i11, i12, i13, none, none, none] ∧ PoolOk ns d)
    [some (.lst (ns.map .int)), some d4, some (.bl b), some (spD S T), some (.lst (E.map entD)), none, none, none, none, none, none, none, none, none, none, none, none] ⟨d4, none, none, none, none, none, none, rfl, p4⟩ fun k ρ hk ⟨d, i5, i9, i10, i11, i12, i13, e, p⟩ => by
      subst e
      obtain ⟨d', k5, k10, k11, k12, k13, ht, p'⟩ := turn_ok h hS hT6 hg (some (.lst (ns.map .int))) i5 none none none (some (.int (0 + (k : Int)))) i10 i11 i12 i13 none none d p
      exact ⟨_, _, rfl, ht, d', k5, some (.int (0 + (k : Int))), k10, k11, k12, k13, rfl, p'⟩
  subst q2
  have s6 : sFor (DL.e1 rng1D (eRet (.int 4))) (gSet 9) l_law_3 [some (.lst (ns.map .int)), some d4, some (.bl b), some (spD S T), some (.lst (E.map entD)), none, none, none, none, none, none, none, none, none, none, none, none] = .ok (.nx, [some (.lst (ns.map .int)), some d', some (.bl b), some (spD S T), some (.lst (E.map entD)), i5, none, none, none, i9, i10, i11, i12, i13, none, none, none]) := by
    rw [ap_for, ap_e1, ap_ret]
    dsimp only
    rw [hr, ap_liftOk]
    dsimp only
    rw [q1]
  have s5 := ls_5 (.lst (ns.map .int)) d3 d4 (spD S T) (.lst (E0.map entD)) _ (.bl b) w x4 hc
  rw [hE] at s5
  obtain ⟨F, f1, f2, f3⟩ := falls_ok h hS hT7
  unfold m_law
  rw [rv_fn]
  have ei : initEv 17 [.lst (ns.map .int)] = [some (.lst (ns.map .int)), none, none, none, none, none, none, none, none, none, none, none, none, none, none, none, none] := rfl
  rw [ei]
  unfold b_law
  rw [seq_nx (ls_1 _ _ x0), seq_nx (ls_2 _ _ _ _ b x1 hb), seq_nx (ls_3 _ _ _ _ b x2), seq_nx (ls_4 _ _ _ _ _ _ x3), seq_nx s5, seq_nx s6]
  cases b with
  | true =>
    have fin : ∀ ρ ρ' : Ev, ∀ (A B : SM), sIf (DL.e1 truD (eVar 2)) A sNil ρ = .ok (.rt (.bl true), ρ') → (match (sSeq (sIf (DL.e1 truD (eVar 2)) A sNil) B) ρ with
      | .ok (.nx, _) => if false = true then Res.bad else .ok D.non
      | .ok (.rt d, _) => .ok d
      | .ok _ => .bad
      | .exc x => .exc x
      | .bad => .bad) = .ok (.bl true) := fun ρ ρ' A B hh => by
      unfold sSeq
      rw [hh]
    rcases f2 with rfl | ⟨x, n, rfl, hx⟩
    · exact fin _ _ _ _ (by rw [st_great, if_pos rfl]; exact end_great _ _ _ _ _ _ _ _ _ _ _ _ _ _ _ _ f1)
    · obtain ⟨hnS, hxS, hiS, hlt⟩ := hx
      obtain ⟨p, c1, c2, c3⟩ := cover_least h hxS
      have hks : ∀ n ∈ S, n ∈ strSort S := fun n h => strSort_mem.mpr h
      have cc := cheapest_ok h hS hT7 hxS hks
      rw [c1] at cc
      have pr := h.price_ok hS hks hxS hT7
      have hpS : InSp S T p := fun n hn => by have := c2 n hn; have := hxS n hn; omega
      have le := c3 (incF x n) hiS fun m hm => by
        unfold incF setF
        split
        · rename_i e
          subst e
          omega
        · exact Int.le_refl _
      have ll := llessS (price_Sx h hS hpS hT7) (price_Sx h hS hxS hT7) (by decide) (by decide)
      rw [decide_eq_true (show priceE S E p < priceE S E x by grind)] at ll
      exact fin _ _ _ _ (by rw [st_great, if_pos rfl]; exact end_great2 _ _ _ _ _ _ _ _ _ _ _ _ _ _ _ _ _ _ _ _ _ f1 cc pr ll)
  | false =>
    have hT3 : ∀ n ∈ S, 0 ≤ T n ∧ T n ≤ 3 := fun n hn => ⟨(hT6 n hn).1, hg rfl n hn⟩
    obtain ⟨o, i14, o1, o2⟩ := own_ok h hS hT3 (some (.lst (ns.map .int))) (some d') (some (.bl false)) i5 none none none i9 i10 i11 i12 i13 none none
    have sk : sIf (DL.e1 truD (eVar 2)) (sSeq (sSet 15 (eCall [none, none] m_falls (eCons (eVar 3) (eCons (eVar 4) eNil)))) (sSeq (sRet (eBl (eOr (DL.e2 isC (eVar 15) (eRet .non)) (eAsB (eCall [none, none] m_f_law_less (eCons (DL.e2 ixD (eCall [none, none, none] m_cheapest_cover (eCons (eVar 3) (eCons (eVar 4) (eCons (DL.e2 ixD (eVar 15) (eRet (.int 0))) eNil)))) (eRet (.int 0))) (eCons (eCall [none, none] m_f_law_price (eCons (eVar 4) (eCons (DL.e2 ixD (eVar 15) (eRet (.int 0))) eNil))) eNil))))))) sNil)) sNil
        [some (.lst (ns.map .int)), some d', some (.bl false), some (spD S T), some (.lst (E.map entD)), i5, none, none, none, i9, i10, i11, i12, i13, none, none, none] = .ok (.nx, [some (.lst (ns.map .int)), some d', some (.bl false), some (spD S T), some (.lst (E.map entD)), i5, none, none, none, i9, i10, i11, i12, i13, none, none, none]) := by
      rw [st_great, if_neg Bool.false_ne_true]
      rfl
    have sb : sFor (DL.e1 gItems (eCall [none] m_f_law_baskets (eCons (eVar 3) eNil))) (gSet 14) l_law_4 [some (.lst (ns.map .int)), some d', some (.bl false), some (spD S T), some (.lst (E.map entD)), i5, none, none, none, i9, i10, i11, i12, i13, none, none, some (.bl true)] = .ok (.nx, [some (.lst (ns.map .int)), some d', some (.bl false), some (spD S T), some (.lst (E.map entD)), i5, none, none, none, i9, i10, i11, i12, i13, i14, none, some (.bl o)]) := by
      have bk := baskets_ok hS (T := T) fun n hn => by have := hT3 n hn; omega
      generalize (bAll (strSort S) T).map (bkD (strSort S)) = X at bk o1
      generalize spD S T = SP at bk o1 ⊢
      simp [bk]
      exact o1
    obtain ⟨k, hk⟩ : ∃ k, isC F .non = .ok k ∧ (k = true ↔ F = .non) := by
      rcases f2 with rfl | ⟨x, n, rfl, hx⟩
      · exact ⟨true, rfl, by simp⟩
      · exact ⟨false, rfl, ⟨(fun e => nomatch e), (fun e => nomatch e)⟩⟩
    have eq : (k == o) = true := by
      rw [beq_iff_eq, Bool.eq_iff_iff, hk.2, o2]
      constructor
      · exact f3
      · intro g
        rcases f2 with e | ⟨x, n, _, hx⟩
        · exact e
        · exact absurd hx (g x n)
    have se := end_small (some (.lst (ns.map .int))) (some d') (some (.bl false)) i5 none none none i9 i10 i11 i12 i13 i14 none _ _ _ _ _ f1 hk.1 eq
    rw [seq_nx sk]
    rw [seq_nx (show sSet 16 (eRet (.bl true)) [some (.lst (ns.map .int)), some d', some (.bl false), some (spD S T), some (.lst (E.map entD)), i5, none, none, none, i9, i10, i11, i12, i13, none, none, none] = .ok (.nx, [some (.lst (ns.map .int)), some d', some (.bl false), some (spD S T), some (.lst (E.map entD)), i5, none, none, none, i9, i10, i11, i12, i13, none, none, some (.bl true)]) from rfl)]
    rw [seq_nx sb]
    unfold sSeq
    rw [se]
theorem law_fin (ns : List Int) : ∃ l, m_law [.lst (ns.map .int)] = .ok (.bl true, l) := by
  have h := law_ok ns
  cases q : m_law [.lst (ns.map .int)] with
  | ok p =>
    obtain ⟨d, l⟩ := p
    rw [q] at h
    have : d = .bl true := by
      have h' : Res.ok d = Res.ok (D.bl true) := h
      cases h'
      rfl
    exact ⟨l, by rw [this]⟩
  | exc x => rw [q] at h; cases h
  | bad => rw [q] at h; cases h
end DL.G
/-! ### the head -/
namespace DL.G
open PySem PySem.Spec PyProof.Rows L2
abbrev Rw : PySem.W.OpenRow := PySem.W.OpenLaw.row PySem.Challenge.rw_pairsave_k94_whole_cheapest_covers
def hk : PySem.W.Hook := He.hookX 4 fa fn [] [] ex
def obs (s : PySem.W.SharedT) : He.AlX := He.obsX 4 fa fn [] [] ex (HandSHeadRun.getT s)
theorem obs_eq (s : PySem.W.SharedT) : obs s = hk.obs s.abs := He.obsX_eq (HandSHeadRun.getT_eq s)
def loose : List Str := (["gcd", "NOUGHT", "frac", "plus", "minus", "times", "over", "sum_of", "less", "whole", "common", "in_row", "risen", "difference", "highest", "lowest_rest", "first_place", "first_below", "stepped", "first_fall", "falls", "cheapest_cover", "_law_in_box", "_law_gcd", "_law_ratio", "_law_add", "_law_mul", "_law_price", "_law_less", "_law_mixed"] : List Str) ++ (["_law_rest", "_law_pool", "_law_draw", "_law_pick", "_law_turned", "_law_space", "_law_split", "_law_signed", "_law_short", "_law_entries", "_law_next", "_law_baskets", "_law_same", "_law_row", "_law_corners", "_law_best"] : List Str)
theorem run (w : World) : HandSHeadRun.RunEqI Rw (PySem.W.view Rw.prog [0, 51]) hk obs 2000 loose w := by
  show (HandSHeadRun.wholeF _ _ _ _).map _ = _
  kernel_rfl
/-- the law's argument, a list of ints -/
theorem args_ok {K : Frag} {H : Hp} {a : Addr} {ns : List Int} (h : SqL K H a (ns.map V.int)) : ∃ F, AOk K F H [false] [.lst (ns.map .int)] [.ref a] := by
  have key : ∀ F : Hp, (∀ b u, F b = some u → Rd' H b u) → LAt K F a (ns.map V.int) → AOk K F H [false] [.lst (ns.map .int)] [.ref a] := fun F hs hl => by
    refine ⟨rfl, rfl, hs, fun i d h1 h2 => ?_, fun i d h1 h2 => ?_, fun i j b hne h1 h2 h3 h4 => ?_⟩
    · cases i with
      | zero => cases h2; exact ⟨.ref a, rfl, a, _, rfl, hl, Reps.ints⟩
      | succ i => simp at h2
    · cases i with
      | zero => cases h1
      | succ i => simp at h1
    · cases i with
      | zero => cases h1
      | succ i => simp at h1
  rcases h with h | h
  · refine ⟨fun b => if b = a then some (.lst (ns.map V.int)) else none, key _ (fun b u e => ?_) (.inl (if_pos rfl))⟩
    try dsimp only at e
    split at e
    · rename_i hb
      subst hb
      cases e
      rcases h with h | ⟨o, h⟩
      · exact .inl h
      · exact .inr ⟨trivial, o, h⟩
    · cases e
  · exact ⟨fun _ => none, key _ (fun b u e => by cases e) (.inr h)⟩
end DL.G
open PySem PySem.W PySem.Calls PyProof.Rows
theorem PySem.Challenge.cw_pairsave_k94_whole_cheapest_covers_holds : PySem.Challenge.rw_pairsave_k94_whole_cheapest_covers.Holds := by
  w_on; o_law
  refine HandSHeadRun.head_imp (r := OpenLaw.row PySem.Challenge.rw_pairsave_k94_whole_cheapest_covers) (q := view (OpenLaw.row PySem.Challenge.rw_pairsave_k94_whole_cheapest_covers).prog [0, 51]) (H := DL.G.hk) (ob := DL.G.obs) (M := 2000) (loose := DL.G.loose) (d := HandSHeadRun.topDef (OpenLaw.row PySem.Challenge.rw_pairsave_k94_whole_cheapest_covers).prog 51) (kwd := []) DL.G.obs_eq
    DL.G.run (by kernel_rfl) (by kernel_rfl) (by kernel_rfl) (by rfl) (by first | assumption | decide +kernel) (by decide +kernel) ⟨rfl, rfl, rfl, rfl, rfl, by decide +kernel⟩ ?hw ?hc
  case hw => w_witness2
  case hc =>
    refine L2.walk_ofE (l := PySem.Challenge.rw_pairsave_k94_whole_cheapest_covers) (n := 63) (k := 10) (x := "script") (CX := L2.CX0) rfl (by decide) (by kernel_rfl) ⟨rfl, by decide, by decide⟩ ?F (fun _ _ _ _ z => z)
    intro w mg fa h Y G hmg0
    obtain ⟨K, KX, c⟩ := Y
    have hmg : mg ("law" : PySem.Str) = some (.ref fa) := by
      have e : (HandSHeadRun.topDef (OpenLaw.row PySem.Challenge.rw_pairsave_k94_whole_cheapest_covers).prog 51).name = ("law" : PySem.Str) := by kernel_rfl
      rw [← e]
      exact hmg0
    have B : DL.Base DL.G.fa DL.G.fn DL.G.ex K mg := ⟨⟨h, KX, G⟩, c.t.d, c.more⟩
    obtain ⟨fd, F⟩ := c.t.d.def_ 44 (d := DL.mkD "law" (DL.G.top 51)) rfl
    have e := hmg.symm.trans (B.glo 44 rfl)
    cases e
    have b := L2.FunD.bindsA (ps := ["script"]) F fun _ _ _ _ _ _ us hl => match us, hl with | [_], _ => rfl
    refine ⟨K, fd, DL.spD K [false] false DL.G.m_law, KX, fun s v => b s [v] rfl, fun H a ns hl _ hS => ?_, fun base _ _ => DL.G.fn_law B F⟩
    obtain ⟨F0, ha⟩ := DL.G.args_ok hS
    obtain ⟨l, hv⟩ := DL.G.law_fin ns
    refine ⟨F0, _, ha, ?_⟩
    rw [hv]
    intro v F' H' pk
    exact pk.ret
