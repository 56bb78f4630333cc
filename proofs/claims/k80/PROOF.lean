import PyProof.Rows.All
import HandS.ForMost
import HandS.Defaults
import HandS.Exc
import HandS.Wide
import HandS.Gcd
import HandS.HeadHook2
import HandS.IsInst
import HandS.More
import HandS.SortInts
import HandS.Conv
import KE.SortData
import HandS.TupLen
import HandS.Small
import HandS.Head0
import HandS.Head1
import HandS.Head2
import HandS.Head3
import HandS.HeadEnd
import HandS.HeadHook1
import HandS.HeadHook3
import HandS.HeadHook4
import PySem.Challenge.RW_pairsave_k80_whole_rent_or_buy
import Wide.All
import OpenK.AllK
import Wide.FinOn
import KE.KStateDown
set_option Elab.async false
set_option linter.all false
set_option maxRecDepth 100000
set_option maxHeartbeats 0
/-! DL1: data, what represents them, the state's relation. -/
namespace DL
open PySem PySem.Spec L2
set_option autoImplicit false
abbrev Frag := PySem.W.Frag
/-- a value as a tree of data -/
inductive D where
  | non | bl (b : Bool) | int (i : Int) | str (x : Str) | tup (xs : List D) | lst (xs : List D) | dic (t : Bool) (kvs : List (D × D)) | set (xs : List D)
def kD : Key → D
  | .inl i => .int i
  | .inr x => .str x
def KT (K : Frag) (a : Addr) (xs : List V) : Prop := ∃ (o : Obj) (its : Array Value) (n : Nat), K.lookup a = some o ∧ o.cls = .type "tuple" ∧ o.data = .seq its n ∧ its.size ≤ sizeLine ∧ Vals xs its.toList
def KL (K : Frag) (a : Addr) (xs : List V) : Prop := ∃ (o : Obj) (its : Array Value) (n : Nat), K.lookup a = some o ∧ o.cls = .type "list" ∧ o.dict = none ∧ o.data = .seq its n ∧ its.size ≤ sizeLine ∧ Vals xs its.toList
def TAt (K : Frag) (F : Hp) (a : Addr) (xs : List V) : Prop := F a = some (.tup xs) ∨ KT K a xs
def LAt (K : Frag) (F : Hp) (a : Addr) (xs : List V) : Prop := F a = some (.lst xs) ∨ KL K a xs
mutual
def Rep (K : Frag) (F : Hp) : D → V → Prop
  | .non, v => v = .non
  | .bl b, v => v = .bl b
  | .int i, v => v = .int i
  | .str x, v => v = .str x
  | .tup ds, v => ∃ a vs, v = .ref a ∧ TAt K F a vs ∧ Reps K F ds vs
  | .lst ds, v => ∃ a vs, v = .ref a ∧ LAt K F a vs ∧ Reps K F ds vs
  | .dic t kvs, v => ∃ a, v = .ref a ∧ ((t = false ∧ ∃ l, F a = some (.dK l) ∧ RepK K F kvs l) ∨ (t = true ∧ ∃ l, F a = some (.dT l) ∧ RepT K F kvs l))
  | .set _, _ => False
def Reps (K : Frag) (F : Hp) : List D → List V → Prop
  | [], vs => vs = []
  | d :: ds, vs => ∃ v r, vs = v :: r ∧ Rep K F d v ∧ Reps K F ds r
def RepK (K : Frag) (F : Hp) : List (D × D) → List (Key × V) → Prop
  | [], l => l = []
  | (k, d) :: ds, l => ∃ k' v r, l = (k', v) :: r ∧ k = kD k' ∧ Rep K F d v ∧ RepK K F ds r
def RepT (K : Frag) (F : Hp) : List (D × D) → List (List Key × V) → Prop
  | [], l => l = []
  | (k, d) :: ds, l => ∃ k' v r, l = (k', v) :: r ∧ k = .tup (k'.map kD) ∧ Rep K F d v ∧ RepT K F ds r
end
def FLe (F F' : Hp) : Prop := ∀ a u, F a = some u → F' a = some u
theorem FLe.refl {F : Hp} : FLe F F := fun _ _ h => h
theorem FLe.trans {F G H : Hp} (a : FLe F G) (b : FLe G H) : FLe F H := fun c u h => b c u (a c u h)
theorem FLe.upd {F : Hp} {p : Addr} {o : HO} (h : F p = none) : FLe F (upd F p o) := fun b u e => by
  rw [upd_ne (ne_of_none e h)]; exact e
theorem TAt.mono {K : Frag} {F F' : Hp} {a : Addr} {xs : List V} (l : FLe F F') (h : TAt K F a xs) : TAt K F' a xs := h.imp (l _ _) id
theorem LAt.mono {K : Frag} {F F' : Hp} {a : Addr} {xs : List V} (l : FLe F F') (h : LAt K F a xs) : LAt K F' a xs := h.imp (l _ _) id
mutual
theorem Rep.mono {K : Frag} {F F' : Hp} (l : FLe F F') : ∀ (d : D) (v : V), Rep K F d v → Rep K F' d v
  | .non, v, h => h
  | .bl _, v, h => h
  | .int _, v, h => h
  | .str _, v, h => h
  | .tup ds, v, h => by
    obtain ⟨a, vs, e, t, r⟩ := h
    exact ⟨a, vs, e, t.mono l, Reps.mono l ds vs r⟩
  | .lst ds, v, h => by
    obtain ⟨a, vs, e, t, r⟩ := h
    exact ⟨a, vs, e, t.mono l, Reps.mono l ds vs r⟩
  | .dic b kvs, v, h => by
    obtain ⟨a, e, h⟩ := h
    rcases h with ⟨hb, m, t, r⟩ | ⟨hb, m, t, r⟩
    · exact ⟨a, e, .inl ⟨hb, m, l _ _ t, RepK.mono l kvs m r⟩⟩
    · exact ⟨a, e, .inr ⟨hb, m, l _ _ t, RepT.mono l kvs m r⟩⟩
  | .set _, v, h => h
theorem Reps.mono {K : Frag} {F F' : Hp} (l : FLe F F') : ∀ (ds : List D) (vs : List V), Reps K F ds vs → Reps K F' ds vs
  | [], vs, h => h
  | d :: ds, vs, h => by
    obtain ⟨v, r, e, a, b⟩ := h
    exact ⟨v, r, e, Rep.mono l d v a, Reps.mono l ds r b⟩
theorem RepK.mono {K : Frag} {F F' : Hp} (l : FLe F F') : ∀ (ds : List (D × D)) (vs : List (Key × V)), RepK K F ds vs → RepK K F' ds vs
  | [], vs, h => h
  | (k, d) :: ds, vs, h => by
    obtain ⟨k', v, r, e, e2, a, b⟩ := h
    exact ⟨k', v, r, e, e2, Rep.mono l d v a, RepK.mono l ds r b⟩
theorem RepT.mono {K : Frag} {F F' : Hp} (l : FLe F F') : ∀ (ds : List (D × D)) (vs : List (List Key × V)), RepT K F ds vs → RepT K F' ds vs
  | [], vs, h => h
  | (k, d) :: ds, vs, h => by
    obtain ⟨k', v, r, e, e2, a, b⟩ := h
    exact ⟨k', v, r, e, e2, Rep.mono l d v a, RepT.mono l ds r b⟩
end
section
variable {K : Frag} {F : Hp}
theorem Reps.length : ∀ {ds : List D} {vs : List V}, Reps K F ds vs → vs.length = ds.length
  | [], vs, h => by rw [show vs = [] from h]; rfl
  | d :: ds, vs, h => by
    obtain ⟨v, r, e, a, b⟩ := h
    rw [e, List.length_cons, List.length_cons, Reps.length b]
theorem Reps.get : ∀ {ds : List D} {vs : List V} {i : Nat} {d : D}, Reps K F ds vs → ds[i]? = some d → ∃ v, vs[i]? = some v ∧ Rep K F d v
  | [], vs, i, d, h, e => by simp at e
  | d0 :: ds, vs, 0, d, h, e => by
    obtain ⟨v, r, e1, a, b⟩ := h
    have : d0 = d := by simpa using e
    subst this
    exact ⟨v, by rw [e1]; rfl, a⟩
  | d0 :: ds, vs, i + 1, d, h, e => by
    obtain ⟨v, r, e1, a, b⟩ := h
    obtain ⟨w, h1, h2⟩ := Reps.get (i := i) b (by simpa using e)
    exact ⟨w, by rw [e1]; simpa using h1, h2⟩
theorem Reps.get' {ds : List D} {vs : List V} {i : Nat} {v : V} (h : Reps K F ds vs) (e : vs[i]? = some v) : ∃ d, ds[i]? = some d ∧ Rep K F d v := by
  have hl := h.length
  have hi : i < ds.length := by rw [← hl]; exact (List.getElem?_eq_some_iff.mp e).1
  obtain ⟨w, h1, h2⟩ := h.get (List.getElem?_eq_getElem hi)
  rw [e] at h1
  cases h1
  exact ⟨_, List.getElem?_eq_getElem hi, h2⟩
theorem Reps.append : ∀ {ds es : List D} {vs ws : List V}, Reps K F ds vs → Reps K F es ws → Reps K F (ds ++ es) (vs ++ ws)
  | [], es, vs, ws, h, k => by rw [show vs = [] from h]; exact k
  | d :: ds, es, vs, ws, h, k => by
    obtain ⟨v, r, e, a, b⟩ := h
    subst e
    exact ⟨v, r ++ ws, rfl, a, b.append k⟩
theorem Reps.one {d : D} {v : V} (h : Rep K F d v) : Reps K F [d] [v] := ⟨v, [], rfl, h, rfl⟩
theorem Reps.set : ∀ {ds : List D} {vs : List V} {d : D} {v : V} (i : Nat), Reps K F ds vs → Rep K F d v → Reps K F (ds.set i d) (vs.set i v)
  | [], vs, d, v, i, h, k => by rw [show vs = [] from h]; rfl
  | d0 :: ds, vs, d, v, 0, h, k => by
    obtain ⟨v0, r, e, a, b⟩ := h
    subst e
    exact ⟨v, r, rfl, k, b⟩
  | d0 :: ds, vs, d, v, i + 1, h, k => by
    obtain ⟨v0, r, e, a, b⟩ := h
    subst e
    exact ⟨v0, r.set i v, rfl, a, Reps.set i b k⟩
theorem Reps.take : ∀ {ds : List D} {vs : List V} (n : Nat), Reps K F ds vs → Reps K F (ds.take n) (vs.take n)
  | [], vs, n, h => by rw [show vs = [] from h]; simp [Reps]
  | d :: ds, vs, 0, h => rfl
  | d :: ds, vs, n + 1, h => by
    obtain ⟨v0, r, e, a, b⟩ := h
    subst e
    exact ⟨v0, r.take n, rfl, a, b.take n⟩
theorem Reps.drop : ∀ {ds : List D} {vs : List V} (n : Nat), Reps K F ds vs → Reps K F (ds.drop n) (vs.drop n)
  | [], vs, n, h => by rw [show vs = [] from h]; simp [Reps]
  | d :: ds, vs, 0, h => h
  | d :: ds, vs, n + 1, h => by
    obtain ⟨v0, r, e, a, b⟩ := h
    subst e
    exact b.drop n
theorem Reps.eraseIdx : ∀ {ds : List D} {vs : List V} (n : Nat), Reps K F ds vs → Reps K F (ds.eraseIdx n) (vs.eraseIdx n)
  | [], vs, n, h => by rw [show vs = [] from h]; simp [Reps]
  | d :: ds, vs, 0, h => by
    obtain ⟨v0, r, e, a, b⟩ := h
    subst e
    exact b
  | d :: ds, vs, n + 1, h => by
    obtain ⟨v0, r, e, a, b⟩ := h
    subst e
    exact ⟨v0, r.eraseIdx n, rfl, a, b.eraseIdx n⟩
theorem Reps.reverse : ∀ {ds : List D} {vs : List V}, Reps K F ds vs → Reps K F ds.reverse vs.reverse
  | [], vs, h => by rw [show vs = [] from h]; rfl
  | d :: ds, vs, h => by
    obtain ⟨v0, r, e, a, b⟩ := h
    subst e
    rw [List.reverse_cons, List.reverse_cons]
    exact b.reverse.append (.one a)
theorem Reps.ints : ∀ {ns : List Int}, Reps K F (ns.map D.int) (ns.map V.int)
  | [] => rfl
  | n :: ns => ⟨.int n, ns.map V.int, rfl, rfl, Reps.ints⟩
end
/-! ### the state -/
abbrev Ev := List (Option D)
/-- what is laid down for a def's run: the heap and the frozen part at its entry, the slots whose objects the caller lent, the dicts that are locked -/
structure Gh where
  H0 : Hp
  F0 : Hp
  pn : List (Nat × Addr)
  lk : List (Addr × Obj × HO)
  kt : List Nat := []
/-- an object that a slot owns -/
def OwnD (K : Frag) (F H : Hp) (a : Addr) : D → Prop
  | .lst ds => ∃ vs, H a = some (.lst vs) ∧ Reps K F ds vs
  | .dic t kvs => (t = false ∧ ∃ l, H a = some (.dK l) ∧ RepK K F kvs l) ∨ (t = true ∧ ∃ l, H a = some (.dT l) ∧ RepT K F kvs l)
  | _ => False
theorem OwnD.mono {K : Frag} {F F' H : Hp} {a : Addr} (l : FLe F F') : ∀ {d : D}, OwnD K F H a d → OwnD K F' H a d
  | .lst ds, ⟨vs, h, r⟩ => ⟨vs, h, Reps.mono l _ _ r⟩
  | .dic t kvs, h => by
    rcases h with ⟨ht, m, h, r⟩ | ⟨ht, m, h, r⟩
    · exact .inl ⟨ht, m, h, RepK.mono l _ _ r⟩
    · exact .inr ⟨ht, m, h, RepT.mono l _ _ r⟩
theorem OwnD.heap {K : Frag} {F H H' : Hp} {a : Addr} (e : H' a = H a) : ∀ {d : D}, OwnD K F H a d → OwnD K F H' a d
  | .lst ds, ⟨vs, h, r⟩ => ⟨vs, e.trans h, r⟩
  | .dic t kvs, h => by
    rcases h with ⟨ht, m, h, r⟩ | ⟨ht, m, h, r⟩
    · exact .inl ⟨ht, m, e.trans h, r⟩
    · exact .inr ⟨ht, m, e.trans h, r⟩
theorem OwnD.there {K : Frag} {F H : Hp} {a : Addr} : ∀ {d : D}, OwnD K F H a d → ∃ o, H a = some o ∧ Mut (some o)
  | .lst ds, ⟨vs, h, r⟩ => ⟨_, h, trivial⟩
  | .dic t kvs, h => by
    rcases h with ⟨ht, m, h, r⟩ | ⟨ht, m, h, r⟩
    · exact ⟨_, h, trivial⟩
    · exact ⟨_, h, trivial⟩
/-- frozen: from now on data -/
theorem OwnD.rep {K : Frag} {F H F' : Hp} {a : Addr} (l : FLe F F') (e : F' a = H a) : ∀ {d : D}, OwnD K F H a d → Rep K F' d (.ref a)
  | .lst ds, ⟨vs, h, r⟩ => ⟨a, vs, rfl, .inl (e.trans h), Reps.mono l _ _ r⟩
  | .dic t kvs, h => by
    rcases h with ⟨ht, m, h, r⟩ | ⟨ht, m, h, r⟩
    · exact ⟨a, rfl, .inl ⟨ht, m, e.trans h, RepK.mono l _ _ r⟩⟩
    · exact ⟨a, rfl, .inr ⟨ht, m, e.trans h, RepT.mono l _ _ r⟩⟩
/-- a frozen thing as it stands: plain, or locked while it is walked -/
def Rd' (H : Hp) (a : Addr) (u : HO) : Prop := H a = some u ∨ (Mut (some u) ∧ ∃ o, H a = some (.frz o u))
theorem Rd'.rd {H : Hp} {a : Addr} {u : HO} (h : Rd' H a u) : Rd H a u := h.imp id And.right
structure R (K : Frag) (g : Gh) (os : List Bool) (ρ : Ev) (σ : St) (H F : Hp) : Prop where
  len : σ.length = ρ.length
  leno : os.length = ρ.length
  sub : ∀ a u, F a = some u → Rd' H a u
  fz : ∀ (i : Nat) (d : D), os[i]? = some false → ρ[i]? = some (some d) → ∃ v, σ[i]? = some (some v) ∧ Rep K F d v
  ow : ∀ (i : Nat) (d : D), os[i]? = some true → ρ[i]? = some (some d) → ∃ a, σ[i]? = some (some (.ref a)) ∧ F a = none ∧ OwnD K F H a d ∧ ((∃ j, (j, a) ∈ g.pn) ∨ g.H0 a = none)
  dj : ∀ (i j : Nat) (d e : D) (a : Addr), i ≠ j → os[i]? = some true → os[j]? = some true → ρ[i]? = some (some d) → ρ[j]? = some (some e) → σ[i]? = some (some (.ref a)) → σ[j]? = some (some (.ref a)) → False
  frame : ∀ b o, g.H0 b = some o → (∀ j, (j, b) ∉ g.pn) → H b = some o ∨ ∃ od, (b, od, o) ∈ g.lk
  f0 : FLe g.F0 F
  fresh : ∀ b u, F b = some u → g.F0 b = some u ∨ g.H0 b = none ∨ ∃ xs, u = .tup xs ∧ g.H0 b = some (.tup xs)
  fr : ∀ b od u, F b = some u → H b = some (.frz od u) → (b, od, u) ∈ g.lk ∨ g.H0 b = some (.frz od u)
  pin : ∀ (i : Nat) (a : Addr), (i, a) ∈ g.pn → os[i]? = some true ∧ (∃ d, ρ[i]? = some (some d)) ∧ σ[i]? = some (some (.ref a))
  lock : ∀ d od u, (d, od, u) ∈ g.lk → H d = some (.frz od u) ∧ F d = some u
  kt : ∀ (i : Nat) (b : Addr), i ∈ g.kt → σ[i]? = some (some (.ref b)) → ∃ xs, H b = some (.tup xs)
section
variable {K : Frag} {g : Gh} {os : List Bool} {ρ : Ev} {σ : St} {H F : Hp}
theorem TAt.sq {a : Addr} {xs : List V} (s : ∀ a u, F a = some u → Rd' H a u) (h : TAt K F a xs) : SqT K H a xs := h.imp (fun z => (s _ _ z).rd) id
theorem LAt.sq {a : Addr} {xs : List V} (s : ∀ a u, F a = some u → Rd' H a u) (h : LAt K F a xs) : SqL K H a xs := h.imp (fun z => (s _ _ z).rd) id
theorem upd_some {H : Hp} {p b : Addr} {o u : HO} (hp : H p = none) (h : H b = some u) : upd H p o b = some u := by
  rw [upd_ne (ne_of_none h hp)]; exact h
theorem Rd'.upd {p a : Addr} {o u : HO} (hp : H p = none) (h : Rd' H a u) : Rd' (upd H p o) a u := h.imp (upd_some hp) fun ⟨m, ob, h⟩ => ⟨m, ob, upd_some hp h⟩
/-- nothing frozen stands at a free place -/
theorem R.none_of (r : R K g os ρ σ H F) {p : Addr} (h : H p = none) : F p = none := by
  cases e : F p with
  | none => rfl
  | some u =>
    rcases r.sub p u e with q | ⟨_, o, q⟩ <;> rw [h] at q <;> cases q
theorem R.h0_none (r : R K g os ρ σ H F) {p : Addr} (h : H p = none) : g.H0 p = none := by
  cases e : g.H0 p with
  | none => rfl
  | some o =>
    by_cases hp : ∃ j, (j, p) ∈ g.pn
    · obtain ⟨j, hj⟩ := hp
      obtain ⟨h1, ⟨d, h2⟩, h3⟩ := r.pin j p hj
      obtain ⟨a, h4, _, h5, _⟩ := r.ow j d h1 h2
      rw [h3] at h4; cases h4
      obtain ⟨o, h6, _⟩ := h5.there
      rw [h] at h6; cases h6
    · rcases r.frame p o e (fun j hj => hp ⟨j, hj⟩) with q | ⟨od, q⟩
      · rw [h] at q; cases q
      · have := (r.lock p od o q).1
        rw [h] at this; cases this
/-- a new object, untold -/
theorem R.laid (r : R K g os ρ σ H F) {p : Addr} {o : HO} (h : H p = none) : R K g os ρ σ (upd H p o) F where
  len := r.len
  leno := r.leno
  sub := fun a u e => Rd'.upd h (r.sub a u e)
  fz := r.fz
  ow := fun i d h1 h2 => by
    obtain ⟨a, e1, e2, e3, e4⟩ := r.ow i d h1 h2
    obtain ⟨u, e5, _⟩ := e3.there
    exact ⟨a, e1, e2, e3.heap (upd_ne (ne_of_none e5 h)), e4⟩
  dj := r.dj
  frame := fun b u e hp => (r.frame b u e hp).imp (upd_some h) id
  f0 := r.f0
  fresh := r.fresh
  fr := fun b od u hF hH => by
    have ne : b ≠ p := fun z => by subst z; rw [r.none_of h] at hF; cases hF
    rw [upd_ne ne] at hH
    exact r.fr b od u hF hH
  pin := r.pin
  lock := fun d od u hm => ⟨upd_some h (r.lock d od u hm).1, (r.lock d od u hm).2⟩
  kt := fun i b hm hs => let ⟨xs, e⟩ := r.kt i b hm hs; ⟨xs, upd_some h e⟩
/-- what stands in the heap and is no slot's becomes data -/
theorem R.frozen (r : R K g os ρ σ H F) {p : Addr} {o : HO} (h : H p = some o) (hf : F p = none) (h0 : g.H0 p = none ∨ ∃ xs, o = .tup xs ∧ g.H0 p = some (.tup xs)) (hz : ∀ ob v, o ≠ .frz ob v) (hs : ∀ (i : Nat) (d : D), os[i]? = some true → ρ[i]? = some (some d) → σ[i]? ≠ some (some (.ref p))) : R K g os ρ σ H (upd F p o) where
  len := r.len
  leno := r.leno
  sub := fun a u e => by
    by_cases ha : a = p
    · subst ha; rw [upd_same] at e; cases e; exact .inl h
    · rw [upd_ne ha] at e; exact r.sub a u e
  fz := fun i d h1 h2 => by
    obtain ⟨v, e1, e2⟩ := r.fz i d h1 h2
    exact ⟨v, e1, Rep.mono (FLe.upd hf) _ _ e2⟩
  ow := fun i d h1 h2 => by
    obtain ⟨a, e1, e2, e3, e4⟩ := r.ow i d h1 h2
    have ne : a ≠ p := fun z => by subst z; exact hs i d h1 h2 e1
    exact ⟨a, e1, by rw [upd_ne ne]; exact e2, e3.mono (FLe.upd hf), e4⟩
  dj := r.dj
  frame := r.frame
  f0 := r.f0.trans (FLe.upd hf)
  fresh := fun b u e => by
    by_cases hb : b = p
    · subst hb
      rw [upd_same] at e; cases e
      exact .inr h0
    · rw [upd_ne hb] at e; exact r.fresh b u e
  fr := fun b od u hF hH => by
    by_cases hb : b = p
    · subst hb
      rw [h] at hH; cases hH
      exact absurd rfl (hz _ _)
    · rw [upd_ne hb] at hF; exact r.fr b od u hF hH
  pin := r.pin
  lock := fun d od u hm => ⟨(r.lock d od u hm).1, FLe.upd hf _ _ (r.lock d od u hm).2⟩
  kt := r.kt
/-- a new datum -/
theorem R.new (r : R K g os ρ σ H F) {p : Addr} {o : HO} (h : H p = none) (hz : ∀ ob v, o ≠ .frz ob v) : R K g os ρ σ (upd H p o) (upd F p o) :=
  (r.laid h).frozen upd_same (r.none_of h) (.inl (r.h0_none h)) hz fun i d h1 h2 e => by
    obtain ⟨a, e1, _, e3, _⟩ := r.ow i d h1 h2
    rw [e] at e1; cases e1
    obtain ⟨u, e5, _⟩ := e3.there
    rw [h] at e5; cases e5
theorem get_set {α : Type} {l : List α} {i j : Nat} {x : α} : (l.set i x)[j]? = if i = j then (if i < l.length then some x else none) else l[j]? := by
  by_cases e : i = j
  · subst e
    rw [if_pos rfl]
    by_cases hi : i < l.length
    · rw [if_pos hi, List.getElem?_set_self hi]
    · rw [if_neg hi]
      simp [List.getElem?_eq_none_iff]; omega
  · rw [if_neg e, List.getElem?_set_ne e]
/-- a slot takes a datum -/
theorem R.put (r : R K g os ρ σ H F) {i : Nat} {d : D} {v : V} (hi : ∀ a, (i, a) ∉ g.pn) (hk : i ∈ g.kt → ∀ b, v = .ref b → ∃ xs, H b = some (.tup xs)) (h : Rep K F d v) : R K g (os.set i false) (ρ.set i (some d)) (σ.set i (some v)) H F where
  len := by rw [List.length_set, List.length_set]; exact r.len
  leno := by rw [List.length_set, List.length_set]; exact r.leno
  sub := r.sub
  fz := fun j e h1 h2 => by
    rw [get_set] at h1 h2 ⊢
    by_cases hj : i = j
    · rw [if_pos hj] at h2 ⊢
      by_cases hl : i < ρ.length
      · rw [if_pos hl] at h2
        have : d = e := by simpa using h2
        subst this
        rw [if_pos (by rw [r.len]; exact hl)]
        exact ⟨v, rfl, h⟩
      · rw [if_neg hl] at h2; cases h2
    · rw [if_neg hj] at h1 h2 ⊢
      exact r.fz j e h1 h2
  ow := fun j e h1 h2 => by
    rw [get_set] at h1 h2 ⊢
    by_cases hj : i = j
    · rw [if_pos hj] at h1
      split at h1 <;> cases h1
    · rw [if_neg hj] at h1 h2 ⊢
      exact r.ow j e h1 h2
  dj := fun j k d1 e1 a hne h1 h2 h3 h4 h5 h6 => by
    rw [get_set] at h1 h2 h3 h4 h5 h6
    by_cases hj : i = j
    · rw [if_pos hj] at h1
      split at h1 <;> cases h1
    · by_cases hk : i = k
      · rw [if_pos hk] at h2
        split at h2 <;> cases h2
      · rw [if_neg hj] at h1 h3 h5
        rw [if_neg hk] at h2 h4 h6
        exact r.dj j k d1 e1 a hne h1 h2 h3 h4 h5 h6
  frame := r.frame
  f0 := r.f0
  fresh := r.fresh
  fr := r.fr
  pin := fun j a hm => by
    have hj : i ≠ j := fun z => by subst z; exact hi a hm
    rw [get_set, get_set, get_set, if_neg hj, if_neg hj, if_neg hj]
    exact r.pin j a hm
  lock := r.lock
  kt := fun j b hm hs => by
    rw [get_set] at hs
    by_cases hj : i = j
    · subst hj
      rw [if_pos rfl] at hs
      split at hs
      · exact hk hm b (Option.some.inj (Option.some.inj hs))
      · cases hs
    · rw [if_neg hj] at hs
      exact r.kt j b hm hs
/-- a slot takes an object for its own -/
theorem R.own (r : R K g os ρ σ H F) {i : Nat} {d : D} {a : Addr} (hi : ∀ a, (i, a) ∉ g.pn) (hk : i ∉ g.kt) (hf : F a = none) (h : OwnD K F H a d) (h0 : g.H0 a = none)
    (hs : ∀ (j : Nat) (e : D), j ≠ i → os[j]? = some true → ρ[j]? = some (some e) → σ[j]? ≠ some (some (.ref a))) : R K g (os.set i true) (ρ.set i (some d)) (σ.set i (some (.ref a))) H F where
  len := by rw [List.length_set, List.length_set]; exact r.len
  leno := by rw [List.length_set, List.length_set]; exact r.leno
  sub := r.sub
  fz := fun j e h1 h2 => by
    rw [get_set] at h1 h2 ⊢
    by_cases hj : i = j
    · rw [if_pos hj] at h1
      split at h1 <;> cases h1
    · rw [if_neg hj] at h1 h2 ⊢
      exact r.fz j e h1 h2
  ow := fun j e h1 h2 => by
    rw [get_set] at h1 h2 ⊢
    by_cases hj : i = j
    · rw [if_pos hj] at h2 ⊢
      by_cases hl : i < ρ.length
      · rw [if_pos hl] at h2
        have : d = e := by simpa using h2
        subst this
        rw [if_pos (by rw [r.len]; exact hl)]
        exact ⟨a, rfl, hf, h, .inr h0⟩
      · rw [if_neg hl] at h2; cases h2
    · rw [if_neg hj] at h1 h2 ⊢
      exact r.ow j e h1 h2
  dj := fun j k d1 e1 b hne h1 h2 h3 h4 h5 h6 => by
    rw [get_set] at h1 h2 h3 h4 h5 h6
    by_cases hj : i = j
    · have hk : i ≠ k := fun z => hne (hj.symm.trans z)
      rw [if_pos hj] at h5
      rw [if_neg hk] at h2 h4 h6
      have eb : a = b := by
        split at h5
        · have := Option.some.inj (Option.some.inj h5)
          injection this
        · cases h5
      subst eb
      exact hs k e1 (fun z => hk z.symm) h2 h4 h6
    · by_cases hk : i = k
      · rw [if_neg hj] at h1 h3 h5
        rw [if_pos hk] at h6
        have eb : a = b := by
          split at h6
          · have := Option.some.inj (Option.some.inj h6)
            injection this
          · cases h6
        subst eb
        exact hs j d1 (fun z => hj z.symm) h1 h3 h5
      · rw [if_neg hj] at h1 h3 h5
        rw [if_neg hk] at h2 h4 h6
        exact r.dj j k d1 e1 b hne h1 h2 h3 h4 h5 h6
  frame := r.frame
  f0 := r.f0
  fresh := r.fresh
  fr := r.fr
  pin := fun j b hm => by
    have hj : i ≠ j := fun z => by subst z; exact hi b hm
    rw [get_set, get_set, get_set, if_neg hj, if_neg hj, if_neg hj]
    exact r.pin j b hm
  lock := r.lock
  kt := fun j b hm hs => by
    have hj : i ≠ j := fun z => by subst z; exact hk hm
    rw [get_set, if_neg hj] at hs
    exact r.kt j b hm hs
/-- an owned object is changed -/
theorem R.write (r : R K g os ρ σ H F) {i : Nat} {d d' : D} {a : Addr} {o : HO} (h1 : os[i]? = some true) (h2 : ρ[i]? = some (some d)) (h3 : σ[i]? = some (some (.ref a))) (h : OwnD K F (upd H a o) a d') :
    R K g os (ρ.set i (some d')) σ (upd H a o) F := by
  obtain ⟨a', e1, e2, e3, e4⟩ := r.ow i d h1 h2
  rw [h3] at e1; cases e1
  have hF : ∀ b u, F b = some u → b ≠ a := fun b u q => ne_of_none q e2
  have hl : i < ρ.length := by rw [← r.leno]; exact (List.getElem?_eq_some_iff.mp h1).1
  obtain ⟨oa, hoa, moa⟩ := e3.there
  refine ⟨by rw [List.length_set]; exact r.len, by rw [List.length_set]; exact r.leno, fun b u q => ?_, fun j e k1 k2 => ?_, fun j e k1 k2 => ?_, fun j k d1 d2 b hne k1 k2 k3 k4 k5 k6 => ?_, fun b u q hp => ?_, r.f0, r.fresh, fun b od u q1 q2 => ?_, fun j b hm => ?_, fun b od u hm => ?_, fun j b hm hs => ?_⟩
  · have ne := hF b u q
    exact (r.sub b u q).imp (fun z => by rw [upd_ne ne]; exact z) fun ⟨m, ob, z⟩ => ⟨m, ob, by rw [upd_ne ne]; exact z⟩
  · have hj : i ≠ j := fun z => by subst z; rw [h1] at k1; cases k1
    rw [get_set, if_neg hj] at k2
    exact r.fz j e k1 k2
  · rw [get_set] at k2
    by_cases hj : i = j
    · subst hj
      rw [if_pos rfl, if_pos hl] at k2
      have : d' = e := by simpa using k2
      subst this
      exact ⟨a, h3, e2, h, e4⟩
    · rw [if_neg hj] at k2
      obtain ⟨b, q1, q2, q3, q4⟩ := r.ow j e k1 k2
      have ne : b ≠ a := fun z => by subst z; exact r.dj i j d e b hj h1 k1 h2 k2 h3 q1
      exact ⟨b, q1, q2, q3.heap (upd_ne ne), q4⟩
  · have w : ∀ {j d1}, (ρ.set i (some d'))[j]? = some (some d1) → ∃ d2, ρ[j]? = some (some d2) := fun {j d1} z => by
      rw [get_set] at z
      by_cases hj : i = j
      · subst hj; exact ⟨d, h2⟩
      · rw [if_neg hj] at z; exact ⟨d1, z⟩
    obtain ⟨_, w3⟩ := w k3
    obtain ⟨_, w4⟩ := w k4
    exact r.dj j k _ _ b hne k1 k2 w3 w4 k5 k6
  · have ne : b ≠ a := fun z => by
      subst z
      rcases e4 with ⟨j, hj⟩ | hn
      · exact hp j hj
      · rw [hn] at q; cases q
    exact (r.frame b u q hp).imp (fun z => by rw [upd_ne ne]; exact z) id
  · rw [upd_ne (hF b u q1)] at q2
    exact r.fr b od u q1 q2
  · obtain ⟨k1, ⟨e, k2⟩, k3⟩ := r.pin j b hm
    refine ⟨k1, ?_, k3⟩
    rw [get_set]
    by_cases hj : i = j
    · subst hj; rw [if_pos rfl, if_pos hl]; exact ⟨_, rfl⟩
    · rw [if_neg hj]; exact ⟨e, k2⟩
  · obtain ⟨k1, k2⟩ := r.lock b od u hm
    exact ⟨by rw [upd_ne (hF b u k2)]; exact k1, k2⟩
  · obtain ⟨xs, e⟩ := r.kt j b hm hs
    have ne : b ≠ a := fun z => by
      subst z
      rw [hoa] at e; cases e
      exact moa.elim
    exact ⟨xs, by rw [upd_ne ne]; exact e⟩
/-- a slot's own object becomes data -/
theorem R.freeze (r : R K g os ρ σ H F) (i : Nat) (hi : ∀ a, (i, a) ∉ g.pn) : ∃ F', R K g (os.set i false) ρ σ H F' ∧ FLe F F' := by
  by_cases h1 : os[i]? = some true
  · cases h2 : ρ[i]? with
    | none =>
      have hl := (List.getElem?_eq_some_iff.mp h1).1
      have := List.getElem?_eq_none_iff.mp h2
      rw [r.leno] at hl; omega
    | some od =>
      cases od with
      | none =>
        refine ⟨F, ⟨r.len, by rw [List.length_set]; exact r.leno, r.sub, fun j e k1 k2 => ?_, fun j e k1 k2 => ?_, fun j k d e b hne k1 k2 k3 k4 k5 k6 => ?_, r.frame, r.f0, r.fresh, r.fr, fun j b hm => ?_, r.lock, r.kt⟩, FLe.refl⟩
        · have hj : i ≠ j := fun z => by subst z; rw [h2] at k2; cases k2
          rw [get_set, if_neg hj] at k1
          exact r.fz j e k1 k2
        · have hj : i ≠ j := fun z => by subst z; rw [h2] at k2; cases k2
          rw [get_set, if_neg hj] at k1
          exact r.ow j e k1 k2
        · have hj : i ≠ j := fun z => by subst z; rw [h2] at k3; cases k3
          have hk : i ≠ k := fun z => by subst z; rw [h2] at k4; cases k4
          rw [get_set, if_neg hj] at k1
          rw [get_set, if_neg hk] at k2
          exact r.dj j k d e b hne k1 k2 k3 k4 k5 k6
        · have hj : i ≠ j := fun z => by subst z; exact hi b hm
          rw [get_set, if_neg hj]
          exact r.pin j b hm
      | some d =>
        obtain ⟨a, e1, e2, e3, e4⟩ := r.ow i d h1 h2
        obtain ⟨o, e5, mo⟩ := e3.there
        have h0 : g.H0 a = none := by
          rcases e4 with ⟨j, hj⟩ | hn
          · obtain ⟨q1, ⟨d2, q2⟩, q3⟩ := r.pin j a hj
            exact (r.dj i j d d2 a (fun z => by subst z; exact hi a hj) h1 q1 h2 q2 e1 q3).elim
          · exact hn
        have fl : FLe F (upd F a o) := FLe.upd e2
        refine ⟨upd F a o, ⟨r.len, by rw [List.length_set]; exact r.leno, fun b u q => ?_, fun j e k1 k2 => ?_, fun j e k1 k2 => ?_, fun j k d1 d2 b hne k1 k2 k3 k4 k5 k6 => ?_, r.frame, r.f0.trans fl, fun b u q => ?_, fun b od u q1 q2 => ?_, fun j b hm => ?_, fun b od u hm => ?_, r.kt⟩, fl⟩
        · by_cases hb : b = a
          · subst hb; rw [upd_same] at q; cases q; exact .inl e5
          · rw [upd_ne hb] at q; exact r.sub b u q
        · by_cases hj : i = j
          · subst hj
            rw [h2] at k2; cases k2
            exact ⟨.ref a, e1, e3.rep fl (by rw [upd_same, e5])⟩
          · rw [get_set, if_neg hj] at k1
            obtain ⟨v, q1, q2⟩ := r.fz j e k1 k2
            exact ⟨v, q1, Rep.mono fl _ _ q2⟩
        · have hj : i ≠ j := fun z => by
            subst z
            rw [get_set, if_pos rfl] at k1
            split at k1 <;> cases k1
          rw [get_set, if_neg hj] at k1
          obtain ⟨b, q1, q2, q3, q4⟩ := r.ow j e k1 k2
          have ne : b ≠ a := fun z => by subst z; exact r.dj i j d e b hj h1 k1 h2 k2 e1 q1
          exact ⟨b, q1, by rw [upd_ne ne]; exact q2, q3.mono fl, q4⟩
        · have hj : i ≠ j := fun z => by
            subst z
            rw [get_set, if_pos rfl] at k1
            split at k1 <;> cases k1
          have hk : i ≠ k := fun z => by
            subst z
            rw [get_set, if_pos rfl] at k2
            split at k2 <;> cases k2
          rw [get_set, if_neg hj] at k1
          rw [get_set, if_neg hk] at k2
          exact r.dj j k d1 d2 b hne k1 k2 k3 k4 k5 k6
        · by_cases hb : b = a
          · subst hb; exact .inr (.inl h0)
          · rw [upd_ne hb] at q; exact r.fresh b u q
        · by_cases hb : b = a
          · subst hb
            rw [e5] at q2; cases q2
            exact mo.elim
          · rw [upd_ne hb] at q1; exact r.fr b od u q1 q2
        · have hj : i ≠ j := fun z => by subst z; exact hi b hm
          rw [get_set, if_neg hj]
          exact r.pin j b hm
        · exact ⟨(r.lock b od u hm).1, fl _ _ (r.lock b od u hm).2⟩
  · refine ⟨F, ⟨r.len, by rw [List.length_set]; exact r.leno, r.sub, fun j e k1 k2 => ?_, fun j e k1 k2 => ?_, fun j k d e b hne k1 k2 k3 k4 k5 k6 => ?_, r.frame, r.f0, r.fresh, r.fr, fun j b hm => ?_, r.lock, r.kt⟩, FLe.refl⟩
    · by_cases hj : i = j
      · subst hj
        have hl : i < os.length := by
          have := (List.getElem?_eq_some_iff.mp k2).1
          rw [r.leno]; exact this
        have : os[i]? = some false := by
          cases q : os[i]? with
          | none => exact absurd (List.getElem?_eq_none_iff.mp q) (by omega)
          | some b => cases b with
            | false => rfl
            | true => exact absurd q h1
        exact r.fz i e this k2
      · rw [get_set, if_neg hj] at k1
        exact r.fz j e k1 k2
    · have hj : i ≠ j := fun z => by
        subst z
        rw [get_set, if_pos rfl] at k1
        split at k1 <;> cases k1
      rw [get_set, if_neg hj] at k1
      exact r.ow j e k1 k2
    · have hj : i ≠ j := fun z => by
        subst z
        rw [get_set, if_pos rfl] at k1
        split at k1 <;> cases k1
      have hk : i ≠ k := fun z => by
        subst z
        rw [get_set, if_pos rfl] at k2
        split at k2 <;> cases k2
      rw [get_set, if_neg hj] at k1
      rw [get_set, if_neg hk] at k2
      exact r.dj j k d e b hne k1 k2 k3 k4 k5 k6
    · have hj : i ≠ j := fun z => by subst z; exact hi b hm
      rw [get_set, if_neg hj]
      exact r.pin j b hm
/-- what may be read of a value now -/
def View (K : Frag) (F H : Hp) : D → V → Prop
  | .tup ds, v => ∃ a vs, v = .ref a ∧ SqT K H a vs ∧ Reps K F ds vs
  | .lst ds, v => ∃ a vs, v = .ref a ∧ SqL K H a vs ∧ Reps K F ds vs
  | .dic t kvs, v => ∃ a, v = .ref a ∧ ((t = false ∧ ∃ l, Rd H a (.dK l) ∧ RepK K F kvs l) ∨ (t = true ∧ ∃ l, Rd H a (.dT l) ∧ RepT K F kvs l))
  | d, v => Rep K F d v
theorem Rep.view (s : ∀ a u, F a = some u → Rd' H a u) : ∀ {d : D} {v : V}, Rep K F d v → View K F H d v
  | .non, _, h => h
  | .bl _, _, h => h
  | .int _, _, h => h
  | .str _, _, h => h
  | .tup _, _, ⟨a, vs, e, t, r⟩ => ⟨a, vs, e, t.sq s, r⟩
  | .lst _, _, ⟨a, vs, e, t, r⟩ => ⟨a, vs, e, t.sq s, r⟩
  | .dic _ _, _, ⟨a, e, h⟩ => ⟨a, e, h.imp (fun ⟨ht, l, t, r⟩ => ⟨ht, l, (s _ _ t).rd, r⟩) fun ⟨ht, l, t, r⟩ => ⟨ht, l, (s _ _ t).rd, r⟩⟩
  | .set _, _, h => h
theorem OwnD.view {a : Addr} : ∀ {d : D}, OwnD K F H a d → View K F H d (.ref a)
  | .lst _, ⟨vs, h, r⟩ => ⟨a, vs, rfl, .inl (.inl h), r⟩
  | .dic _ _, h => ⟨a, rfl, h.imp (fun ⟨ht, l, t, r⟩ => ⟨ht, l, .inl t, r⟩) fun ⟨ht, l, t, r⟩ => ⟨ht, l, .inl t, r⟩⟩
/-- a slot's value may be read -/
theorem R.view (r : R K g os ρ σ H F) {i : Nat} {d : D} (h : ρ[i]? = some (some d)) : ∃ v, σ[i]? = some (some v) ∧ View K F H d v := by
  have hl : i < os.length := by
    have := (List.getElem?_eq_some_iff.mp h).1
    rw [r.leno]; exact this
  cases q : os[i]? with
  | none => exact absurd (List.getElem?_eq_none_iff.mp q) (by omega)
  | some b => cases b with
    | false =>
      obtain ⟨v, e1, e2⟩ := r.fz i d q h
      exact ⟨v, e1, e2.view r.sub⟩
    | true =>
      obtain ⟨a, e1, e2, e3, e4⟩ := r.ow i d q h
      exact ⟨.ref a, e1, e3.view⟩
end
end DL
/-! DL2: results, the readings as relations, expressions. -/
namespace DL
open PySem PySem.Spec L2
set_option autoImplicit false
/-- an exception: its class's name, its fields -/
structure XD where
  cls : Str
  fields : List (Str × D)
inductive Res (α : Type) where
  | ok (a : α) | exc (x : XD) | bad
abbrev EM (α : Type) := Ev → Res (α × Ev)
def eBind {α β : Type} (f : EM α) (k : α → EM β) : EM β := fun ρ => match f ρ with
  | .ok (a, ρ') => k a ρ'
  | .exc x => .exc x
  | .bad => .bad
def eRet {α : Type} (a : α) : EM α := fun ρ => .ok (a, ρ)
def eLift {α : Type} (r : Res α) : EM α := fun ρ => match r with
  | .ok a => .ok (a, ρ)
  | .exc x => .exc x
  | .bad => .bad
def eVar (i : Nat) : EM D := fun ρ => match ρ[i]? with
  | some (some d) => .ok (d, ρ)
  | _ => .bad
def RepF (K : Frag) (F : Hp) : List (Str × D) → List (Str × V) → Prop
  | [], l => l = []
  | (k, d) :: r, l => ∃ v m, l = (k, v) :: m ∧ Rep K F d v ∧ RepF K F r m
/-- how an exception lies -/
structure ExcOk (K : Frag) (g : Gh) (x : XD) (c : Value) (dd : Option Addr) (H F : Hp) : Prop where
  cls : c = .ref (He.ga K x.cls)
  fld : x.fields = [] ∨ ∃ d l, dd = some d ∧ H d = some (.xd l) ∧ RepF K F x.fields l
  sub : ∀ a u, F a = some u → Rd' H a u
  frame : ∀ b o, g.H0 b = some o → (∀ j, (j, b) ∉ g.pn) → H b = some o ∨ ∃ od, (b, od, o) ∈ g.lk
  f0 : FLe g.F0 F
  fresh : ∀ b u, F b = some u → g.F0 b = some u ∨ g.H0 b = none ∨ ∃ xs, u = .tup xs ∧ g.H0 b = some (.tup xs)
section
variable (K : Frag) (E : XK) (os : List Bool)
/-- what a result is told by -/
abbrev Rl (α β : Type) := Gh → Ev → St → Hp → Hp → α → β → Prop
def WG {α β : Type} (g : Gh) (σ : L2.St) (F : Hp) (rl : Gh → Ev → L2.St → Hp → Hp → α → β → Prop) (Q : β → Hp → Prop) : Res (α × Ev) → Prop
  | .ok (a, ρ') => ∀ b H' F', R K g os ρ' σ H' F' → FLe F F' → rl g ρ' σ H' F' a b → Q b H'
  | .exc x => ∀ c dd H' F', ExcOk K g x c dd H' F' → E c dd H'
  | .bad => False
def tG {α β : Type} (rl : Gh → Ev → L2.St → Hp → Hp → α → β → Prop) (f : EM α) : L2.St → Hp → (β → Hp → Prop) → Prop := fun σ H Q =>
  ∃ g ρ F, R K g os ρ σ H F ∧ WG K E os g σ F rl Q (f ρ)
/-- a new object that is nobody's -/
structure Free (g : Gh) (ρ : Ev) (σ : L2.St) (H F : Hp) (d : D) (a : Addr) : Prop where
  f : F a = none
  own : OwnD K F H a d
  h0 : g.H0 a = none
  ne : ∀ (i : Nat) (e : D), os[i]? = some true → ρ[i]? = some (some e) → σ[i]? ≠ some (some (.ref a))
def rD : Gh → Ev → L2.St → Hp → Hp → D → V → Prop := fun _ _ _ _ F d v => Rep K F d v
def rV : Gh → Ev → L2.St → Hp → Hp → D → V → Prop := fun _ _ _ H F d v => View K F H d v
def rO : Gh → Ev → L2.St → Hp → Hp → D → V → Prop := fun g ρ σ H F d v => ∃ a, v = .ref a ∧ Free K os g ρ σ H F d a
def rB : Gh → Ev → L2.St → Hp → Hp → Bool → Bool → Prop := fun _ _ _ _ _ b c => c = b
def rA : Gh → Ev → L2.St → Hp → Hp → List D → List V → Prop := fun _ _ _ _ F ds vs => Reps K F ds vs
abbrev sD (f : EM D) : TE := tG K E os (rD K) f
abbrev sV (f : EM D) : TE := tG K E os (rV K) f
abbrev sO (f : EM D) : TE := tG K E os (rO K os) f
abbrev sB (f : EM Bool) : TT := tG K E os rB f
abbrev sA (f : EM (List D)) : TA := tG K E os (rA K) f
end
section
variable {K : Frag} {E : XK} {os : List Bool} {g : Gh} {σ : L2.St} {F F1 H : Hp} {ρ : Ev}
theorem WG.mono {α β : Type} {rl : Gh → Ev → L2.St → Hp → Hp → α → β → Prop} {Q : β → Hp → Prop} (l : FLe F F1) : ∀ {r : Res (α × Ev)}, WG K E os g σ F rl Q r → WG K E os g σ F1 rl Q r
  | .ok (a, ρ'), h => fun b H' F' hR le => h b H' F' hR (l.trans le)
  | .exc x, h => h
  | .bad, h => h
theorem WG.bind {α β γ δ : Type} {r1 : Gh → Ev → L2.St → Hp → Hp → α → β → Prop} {r2 : Gh → Ev → L2.St → Hp → Hp → γ → δ → Prop} {Q : δ → Hp → Prop} {f : EM α} {k : α → EM γ} (h : WG K E os g σ F r2 Q (eBind f k ρ)) :
    WG K E os g σ F r1 (fun b H1 => ∃ a ρ1 F1, R K g os ρ1 σ H1 F1 ∧ FLe F F1 ∧ r1 g ρ1 σ H1 F1 a b ∧ WG K E os g σ F1 r2 Q (k a ρ1)) (f ρ) := by
  unfold eBind at h
  cases e : f ρ with
  | ok p =>
    obtain ⟨a, ρ'⟩ := p
    rw [e] at h
    intro b H' F' hR le q
    exact ⟨a, ρ', F', hR, le, q, h.mono le⟩
  | exc x =>
    rw [e] at h
    exact h
  | bad =>
    rw [e] at h
    exact h
theorem WG.imp {α β : Type} {r1 : Gh → Ev → L2.St → Hp → Hp → α → β → Prop} {Q Q' : β → Hp → Prop} (hq : ∀ b H, Q b H → Q' b H) : ∀ {r : Res (α × Ev)}, WG K E os g σ F r1 Q r → WG K E os g σ F r1 Q' r
  | .ok (a, ρ'), h => fun b H' F' hR le q => hq _ _ (h b H' F' hR le q)
  | .exc x, h => h
  | .bad, h => h
/-- a step's reading, then another's -/
theorem tG.bind {α β γ δ : Type} {r1 : Gh → Ev → L2.St → Hp → Hp → α → β → Prop} {r2 : Gh → Ev → L2.St → Hp → Hp → γ → δ → Prop} {Q : δ → Hp → Prop} {f : EM α} {k : α → EM γ} {P : β → Hp → Prop}
    (r : R K g os ρ σ H F) (h : WG K E os g σ F r2 Q (eBind f k ρ))
    (hp : ∀ a b ρ1 H1 F1, R K g os ρ1 σ H1 F1 → FLe F F1 → r1 g ρ1 σ H1 F1 a b → WG K E os g σ F1 r2 Q (k a ρ1) → P b H1) : tG K E os r1 f σ H P :=
  ⟨g, ρ, F, r, (h.bind (r1 := r1)).imp fun b H1 ⟨a, ρ1, F1, h1, h2, h3, h4⟩ => hp a b ρ1 H1 F1 h1 h2 h3 h4⟩
theorem WG.lift {α β : Type} {r1 : Gh → Ev → L2.St → Hp → Hp → α → β → Prop} {Q : β → Hp → Prop} {r : Res α} {a : α} (h : WG K E os g σ F r1 Q (eLift r ρ)) (e : r = .ok a) : ∀ b H' F', R K g os ρ σ H' F' → FLe F F' → r1 g ρ σ H' F' a b → Q b H' := by
  subst e
  exact h
theorem WG.ret {α β : Type} {r1 : Gh → Ev → L2.St → Hp → Hp → α → β → Prop} {Q : β → Hp → Prop} {a : α} (h : WG K E os g σ F r1 Q (eRet a ρ)) : ∀ b H' F', R K g os ρ σ H' F' → FLe F F' → r1 g ρ σ H' F' a b → Q b H' := h
end
section
variable {X : Cx} {E : XK} {os : List Bool} {a b e : Expr} {es : List Expr} {pos : Pos} {fa fb : EM D}
theorem PE.weak {t t' : TE} (h : PE X e t) (w : ∀ σ H Q, t' σ H Q → t σ H Q) : PE X e t' := ⟨fun pins s σ H Q I q => h.run pins s σ H Q I (w σ H Q q)⟩
theorem PT.weak {t t' : TT} (h : PT X e t) (w : ∀ σ H Q, t' σ H Q → t σ H Q) : PT X e t' := ⟨fun pins s σ H Q I q => h.run pins s σ H Q I (w σ H Q q)⟩
theorem PA.weak {t t' : TA} (h : PA X es t) (w : ∀ σ H Q, t' σ H Q → t σ H Q) : PA X es t' := ⟨fun pos pins s σ H Q I q => h.run pos pins s σ H Q I (w σ H Q q)⟩
/-- data may be read -/
theorem dv_of (h : PE X e (sD X.K E os fa)) : PE X e (sV X.K E os fa) := PE.weak h fun σ H Q ⟨g, ρ, F, r, w⟩ => by
  refine ⟨g, ρ, F, r, ?_⟩
  cases q : fa ρ with
  | ok p =>
    obtain ⟨d, ρ'⟩ := p
    rw [q] at w
    intro v H' F' hR le hv
    exact w v H' F' hR le (hv.view hR.sub)
  | exc x => rw [q] at w; exact w
  | bad => rw [q] at w; exact w
/-- a new object becomes data -/
theorem de_of (h : PE X e (sO X.K E os fa)) : PE X e (sD X.K E os fa) := PE.weak h fun σ H Q ⟨g, ρ, F, r, w⟩ => by
  refine ⟨g, ρ, F, r, ?_⟩
  cases q : fa ρ with
  | ok p =>
    obtain ⟨d, ρ'⟩ := p
    rw [q] at w
    intro v H' F' hR le ⟨a, e1, fr⟩
    subst e1
    obtain ⟨o, ho, mo⟩ := fr.own.there
    exact w (.ref a) H' (upd F' a o) (hR.frozen ho fr.f (.inl fr.h0) (fun ob v z => by subst z; exact mo.elim) fr.ne) (le.trans (FLe.upd fr.f)) (fr.own.rep (FLe.upd fr.f) (by rw [upd_same, ho]))
  | exc x => rw [q] at w; exact w
  | bad => rw [q] at w; exact w
/-! ### names, constants -/
theorem de_var {i : Nat} {x : Str} (h : PE X (.Name x pos) (tVar i)) (ho : os[i]? = some false) : PE X (.Name x pos) (sD X.K E os (eVar i)) := PE.weak h fun σ H Q ⟨g, ρ, F, r, w⟩ => by
  unfold eVar at w
  split at w
  · rename_i d q
    obtain ⟨v, e1, e2⟩ := r.fz i d ho q
    exact ⟨v, e1, w v H F r FLe.refl e2⟩
  · exact w.elim
theorem dv_var {i : Nat} {x : Str} (h : PE X (.Name x pos) (tVar i)) : PE X (.Name x pos) (sV X.K E os (eVar i)) := PE.weak h fun σ H Q ⟨g, ρ, F, r, w⟩ => by
  unfold eVar at w
  split at w
  · rename_i d q
    obtain ⟨v, e1, e2⟩ := r.view q
    exact ⟨v, e1, w v H F r FLe.refl e2⟩
  · exact w.elim
theorem de_con {d : D} {v : V} (h : PE X e (tC v)) (hv : ∀ F, Rep X.K F d v) : PE X e (sD X.K E os (eRet d)) := PE.weak h fun σ H Q ⟨g, ρ, F, r, w⟩ => w v H F r FLe.refl (hv F)
theorem de_int {i j pos} : PE X (.Constant (.int i) j pos) (sD X.K E os (eRet (.int i))) := de_con pe_int fun _ => rfl
theorem de_bl {b j pos} : PE X (.Constant (.bool b) j pos) (sD X.K E os (eRet (.bl b))) := de_con pe_bl fun _ => rfl
theorem de_non {j pos} : PE X (.Constant .none j pos) (sD X.K E os (eRet .non)) := de_con pe_non fun _ => rfl
theorem de_str {x j pos} : PE X (.Constant (.str x) j pos) (sD X.K E os (eRet (.str x))) := de_con pe_str fun _ => rfl
/-! ### operators -/
/-- two values, read; a result -/
def Op2 (K : Frag) (os : List Bool) (r : R2) (g2 : D → D → Res D) (rl : Gh → Ev → L2.St → Hp → Hp → D → V → Prop) : Prop :=
  ∀ (g : Gh) (ρ : Ev) (σ : L2.St) (H F : Hp) (x y : V) (dx dy d : D) (Q : VK), R K g os ρ σ H F → View K F H dx x → View K F H dy y → g2 dx dy = .ok d → (∀ v H' F', R K g os ρ σ H' F' → FLe F F' → rl g ρ σ H' F' d v → Q v H') → r x y H Q
/-- .. a Bool -/
def Op2B (K : Frag) (os : List Bool) (r : R2) (g2 : D → D → Res Bool) : Prop :=
  ∀ (g : Gh) (ρ : Ev) (σ : L2.St) (H F : Hp) (x y : V) (dx dy : D) (b : Bool) (Q : VK), R K g os ρ σ H F → View K F H dx x → View K F H dy y → g2 dx dy = .ok b → (∀ H' F', R K g os ρ σ H' F' → FLe F F' → Q (.bl b) H') → r x y H Q
def Noex {α : Type} (r : Res α) : Prop := ∀ x, r ≠ .exc x
def e2 {α : Type} (g2 : D → D → Res α) (fa fb : EM D) : EM α := eBind fa fun x => eBind fb fun y => eLift (g2 x y)
/-- the first one a name -/
def e2N {α : Type} (g2 : D → D → Res α) (i : Nat) (fb : EM D) : EM α := eBind (eVar i) fun _ => eBind fb fun y => eBind (eVar i) fun x => eLift (g2 x y)
theorem WG.okOf {α β : Type} {K : Frag} {g : Gh} {σ : L2.St} {F : Hp} {ρ : Ev} {rl : Gh → Ev → L2.St → Hp → Hp → α → β → Prop} {Q : β → Hp → Prop} {r : Res α} (hn : Noex r) (h : WG K E os g σ F rl Q (eLift r ρ)) : ∃ a, r = .ok a := by
  cases r with
  | ok a => exact ⟨a, rfl⟩
  | exc x => exact absurd rfl (hn x)
  | bad => exact h.elim
theorem eVar_ok {ρ ρ1 : Ev} {i : Nat} {d : D} (h : eVar i ρ = .ok (d, ρ1)) : ρ[i]? = some (some d) ∧ ρ1 = ρ := by
  unfold eVar at h
  split at h
  · rename_i d' q
    injection h with h
    injection h with h1 h2
    subst h1 h2
    exact ⟨q, rfl⟩
  · cases h
section
variable {K : Frag} {g : Gh} {σ : L2.St} {F H : Hp} {ρ : Ev}
theorem WG.var {γ δ : Type} {r2 : Gh → Ev → L2.St → Hp → Hp → γ → δ → Prop} {Q : δ → Hp → Prop} {i : Nat} {k : D → EM γ} (h : WG K E os g σ F r2 Q (eBind (eVar i) k ρ)) : ∃ d, ρ[i]? = some (some d) ∧ WG K E os g σ F r2 Q (k d ρ) := by
  unfold eBind at h
  cases e : eVar i ρ with
  | ok p =>
    obtain ⟨d, ρ1⟩ := p
    obtain ⟨h1, rfl⟩ := eVar_ok e
    rw [e] at h
    exact ⟨d, h1, h⟩
  | exc x =>
    unfold eVar at e
    split at e <;> cases e
  | bad =>
    rw [e] at h
    exact h.elim
theorem WG.lift2 {α β : Type} {rl : Gh → Ev → L2.St → Hp → Hp → α → β → Prop} {Q : β → Hp → Prop} {r : Res α} (hn : Noex r) (h : WG K E os g σ F rl Q (eLift r ρ)) : ∃ a, r = .ok a ∧ ∀ b H' F', R K g os ρ σ H' F' → FLe F F' → rl g ρ σ H' F' a b → Q b H' := by
  obtain ⟨a, e⟩ := h.okOf hn
  exact ⟨a, e, h.lift e⟩
end
/-- the readings of two operands -/
theorem bin_read {r : R2} {rl : Gh → Ev → L2.St → Hp → Hp → D → V → Prop} {g2 : D → D → Res D} (hg : Op2 X.K os r g2 rl) (hn : ∀ x y, Noex (g2 x y)) {σ : L2.St} {H : Hp} {Q : VK} (h : tG X.K E os rl (e2 g2 fa fb) σ H Q) : sD X.K E os fa σ H fun x H1 => sV X.K E os fb σ H1 fun y H2 => r x y H2 Q := by
  obtain ⟨g, ρ, F, hR, w⟩ := h
  refine tG.bind hR w fun dx x ρ1 H1 F1 hR1 le1 rx w1 => ?_
  refine tG.bind hR1 w1 fun dy y ρ2 H2 F2 hR2 le2 ry w2 => ?_
  obtain ⟨d, ed, w3⟩ := w2.lift2 (hn _ _)
  exact hg g ρ2 σ H2 F2 x y dx dy d Q hR2 (Rep.view hR2.sub (Rep.mono le2 _ _ rx)) ry ed w3
theorem bin_readN {r : R2} {rl : Gh → Ev → L2.St → Hp → Hp → D → V → Prop} {g2 : D → D → Res D} {i : Nat} (hg : Op2 X.K os r g2 rl) (hn : ∀ x y, Noex (g2 x y)) {σ : L2.St} {H : Hp} {Q : VK} (h : tG X.K E os rl (e2N g2 i fb) σ H Q) : tVar i σ H fun x H1 => sV X.K E os fb σ H1 fun y H2 => r x y H2 Q := by
  obtain ⟨g, ρ, F, hR, w⟩ := h
  obtain ⟨d0, h0, w0⟩ := w.var
  obtain ⟨x, hx, _⟩ := hR.view h0
  refine ⟨x, hx, ?_⟩
  refine tG.bind hR w0 fun dy y ρ2 H2 F2 hR2 le2 ry w2 => ?_
  obtain ⟨dx, h1, w3⟩ := w2.var
  obtain ⟨x', hx', vx⟩ := hR2.view h1
  rw [hx] at hx'
  cases hx'
  obtain ⟨d, ed, w4⟩ := w3.lift2 (hn _ _)
  exact hg g ρ2 σ H2 F2 x y dx dy d Q hR2 vx ry ed w4
theorem de_op {op : Operator} {r : R2} {rl : Gh → Ev → L2.St → Hp → Hp → D → V → Prop} {g2 : D → D → Res D} (ho : OpR X (binaryOp op) r) (hg : Op2 X.K os r g2 rl) (hn : ∀ x y, Noex (g2 x y)) (ha : PE X a (sD X.K E os fa)) (hb : PE X b (sV X.K E os fb)) :
    PE X (.BinOp a op b pos) (tG X.K E os rl (e2 g2 fa fb)) := PE.weak (pe_op ho ha hb) fun σ H Q h => bin_read hg hn h
theorem de_opN {op : Operator} {r : R2} {rl : Gh → Ev → L2.St → Hp → Hp → D → V → Prop} {g2 : D → D → Res D} {i : Nat} (ho : OpR X (binaryOp op) r) (hg : Op2 X.K os r g2 rl) (hn : ∀ x y, Noex (g2 x y)) (ha : PE X a (tVar i)) (hb : PE X b (sV X.K E os fb)) :
    PE X (.BinOp a op b pos) (tG X.K E os rl (e2N g2 i fb)) := PE.weak (pe_op ho ha hb) fun σ H Q h => bin_readN hg hn h
theorem bin_readB {r : R2} {g2 : D → D → Res Bool} (hg : Op2B X.K os r g2) (hn : ∀ x y, Noex (g2 x y)) {σ : L2.St} {H : Hp} {Q : Bool → Hp → Prop} (h : sB X.K E os (e2 g2 fa fb) σ H Q) : sD X.K E os fa σ H fun x H1 => sV X.K E os fb σ H1 fun y H2 => r x y H2 fun z H3 => ∃ k, z = .bl k ∧ Q k H3 := by
  obtain ⟨g, ρ, F, hR, w⟩ := h
  refine tG.bind hR w fun dx x ρ1 H1 F1 hR1 le1 rx w1 => ?_
  refine tG.bind hR1 w1 fun dy y ρ2 H2 F2 hR2 le2 ry w2 => ?_
  obtain ⟨d, ed, w3⟩ := w2.lift2 (hn _ _)
  exact hg g ρ2 σ H2 F2 x y dx dy d _ hR2 (Rep.view hR2.sub (Rep.mono le2 _ _ rx)) ry ed fun H' F' q l => ⟨_, rfl, w3 _ H' F' q l rfl⟩
theorem bin_readBN {r : R2} {g2 : D → D → Res Bool} {i : Nat} (hg : Op2B X.K os r g2) (hn : ∀ x y, Noex (g2 x y)) {σ : L2.St} {H : Hp} {Q : Bool → Hp → Prop} (h : sB X.K E os (e2N g2 i fb) σ H Q) : tVar i σ H fun x H1 => sV X.K E os fb σ H1 fun y H2 => r x y H2 fun z H3 => ∃ k, z = .bl k ∧ Q k H3 := by
  obtain ⟨g, ρ, F, hR, w⟩ := h
  obtain ⟨d0, h0, w0⟩ := w.var
  obtain ⟨x, hx, _⟩ := hR.view h0
  refine ⟨x, hx, ?_⟩
  refine tG.bind hR w0 fun dy y ρ2 H2 F2 hR2 le2 ry w2 => ?_
  obtain ⟨dx, h1, w3⟩ := w2.var
  obtain ⟨x', hx', vx⟩ := hR2.view h1
  rw [hx] at hx'
  cases hx'
  obtain ⟨d, ed, w4⟩ := w3.lift2 (hn _ _)
  exact hg g ρ2 σ H2 F2 x y dx dy d _ hR2 vx ry ed fun H' F' q l => ⟨_, rfl, w4 _ H' F' q l rfl⟩
/-- a comparison as a test -/
theorem dt_cmp {op : CmpOp} {r : R2} {g2 : D → D → Res Bool} (ho : OpR X (compareOp op) r) (hg : Op2B X.K os r g2) (hn : ∀ x y, Noex (g2 x y)) (hm : behindInMarks op b = false) (ha : PE X a (sD X.K E os fa)) (hb : PE X b (sV X.K E os fb)) :
    PT X (.Compare a [op] [b] pos) (sB X.K E os (e2 g2 fa fb)) := PT.weak (pt_cmpR ho ha hb hm) fun σ H Q h => bin_readB hg hn h
theorem dt_cmpN {op : CmpOp} {r : R2} {g2 : D → D → Res Bool} {i : Nat} (ho : OpR X (compareOp op) r) (hg : Op2B X.K os r g2) (hn : ∀ x y, Noex (g2 x y)) (hm : behindInMarks op b = false) (ha : PE X a (tVar i)) (hb : PE X b (sV X.K E os fb)) :
    PT X (.Compare a [op] [b] pos) (sB X.K E os (e2N g2 i fb)) := PT.weak (pt_cmpR ho ha hb hm) fun σ H Q h => bin_readBN hg hn h
/-- a Bool as a value -/
def eBl (f : EM Bool) : EM D := eBind f fun b => eRet (.bl b)
theorem rBl {f : EM Bool} {σ : L2.St} {H : Hp} {Q : VK} {K : Frag} (h : sD K E os (eBl f) σ H Q) : sB K E os f σ H fun b H' => Q (.bl b) H' := by
  obtain ⟨g, ρ, F, hR, w⟩ := h
  refine tG.bind hR w fun b c ρ1 H1 F1 hR1 le1 rx w1 => ?_
  subst rx
  exact w1 _ H1 F1 hR1 FLe.refl rfl
theorem de_cmp {op : CmpOp} {r : R2} {g2 : D → D → Res Bool} (ho : OpR X (compareOp op) r) (hmono : ∀ x y H Q Q', (∀ v H, Q v H → Q' v H) → r x y H Q → r x y H Q') (hg : Op2B X.K os r g2) (hn : ∀ x y, Noex (g2 x y)) (hm : behindInMarks op b = false) (ha : PE X a (sD X.K E os fa)) (hb : PE X b (sV X.K E os fb)) :
    PE X (.Compare a [op] [b] pos) (sD X.K E os (eBl (e2 g2 fa fb))) := PE.weak (pe_cmpR ho ha hb hm) fun σ H Q h => by
  obtain ⟨g, ρ, F, hR, w⟩ := h
  obtain ⟨g, ρ, F, hR, w⟩ := rBl ⟨g, ρ, F, hR, w⟩
  refine tG.bind hR w fun dx x ρ1 H1 F1 hR1 le1 rx w1 => ?_
  refine tG.bind hR1 w1 fun dy y ρ2 H2 F2 hR2 le2 ry w2 => ?_
  obtain ⟨d, ed, w3⟩ := w2.lift2 (hn _ _)
  exact hg g ρ2 σ H2 F2 x y dx dy d _ hR2 (Rep.view hR2.sub (Rep.mono le2 _ _ rx)) ry ed fun H' F' q l => w3 _ H' F' q l rfl
/-! ### one operand -/
def Op1 (K : Frag) (os : List Bool) (r : V → Hp → VK → Prop) (g1 : D → Res D) (rl : Gh → Ev → L2.St → Hp → Hp → D → V → Prop) : Prop :=
  ∀ (g : Gh) (ρ : Ev) (σ : L2.St) (H F : Hp) (x : V) (dx d : D) (Q : VK), R K g os ρ σ H F → View K F H dx x → g1 dx = .ok d → (∀ v H' F', R K g os ρ σ H' F' → FLe F F' → rl g ρ σ H' F' d v → Q v H') → r x H Q
def e1 {α : Type} (g1 : D → Res α) (fa : EM D) : EM α := eBind fa fun x => eLift (g1 x)
theorem one_read {r : V → Hp → VK → Prop} {rl : Gh → Ev → L2.St → Hp → Hp → D → V → Prop} {g1 : D → Res D} (hg : Op1 X.K os r g1 rl) (hn : ∀ x, Noex (g1 x)) {σ : L2.St} {H : Hp} {Q : VK} (h : tG X.K E os rl (e1 g1 fa) σ H Q) : sV X.K E os fa σ H fun x H1 => r x H1 Q := by
  obtain ⟨g, ρ, F, hR, w⟩ := h
  refine tG.bind hR w fun dx x ρ1 H1 F1 hR1 le1 rx w1 => ?_
  obtain ⟨d, ed, w3⟩ := w1.lift2 (hn _)
  exact hg g ρ1 σ H1 F1 x dx d Q hR1 rx ed w3
theorem de_un {op : UnaryOp} {r : V → Hp → VK → Prop} {rl : Gh → Ev → L2.St → Hp → Hp → D → V → Prop} {g1 : D → Res D} (ho : UnR X (unaryOp op) r) (hg : Op1 X.K os r g1 rl) (hn : ∀ x, Noex (g1 x)) (ha : PE X a (sV X.K E os fa)) :
    PE X (.UnaryOp op a pos) (tG X.K E os rl (e1 g1 fa)) := PE.weak (pe_un ho ha) fun σ H Q h => one_read hg hn h
/-! ### argument lists -/
def eNil : EM (List D) := eRet []
def eCons (f : EM D) (r : EM (List D)) : EM (List D) := eBind f fun d => eBind r fun ds => eRet (d :: ds)
theorem da_nil : PA X [] (sA X.K E os eNil) := PA.weak pa_nil fun σ H Q ⟨g, ρ, F, r, w⟩ => w [] H F r FLe.refl rfl
theorem da_cons {fr : EM (List D)} (ha : PE X e (sD X.K E os fa)) (hr : PA X es (sA X.K E os fr)) (hs : starEach (e :: es) X.env = (false, eval e X.env) :: starEach es X.env := by rfl) : PA X (e :: es) (sA X.K E os (eCons fa fr)) :=
  PA.weak (pa_cons ha hr hs) fun σ H Q ⟨g, ρ, F, r, w⟩ => by
    refine tG.bind r w fun d v ρ1 H1 F1 hR1 le1 rx w1 => ?_
    refine tG.bind hR1 w1 fun ds vs ρ2 H2 F2 hR2 le2 ry w2 => ?_
    exact w2.ret (v :: vs) H2 F2 hR2 FLe.refl ⟨v, vs, rfl, Rep.mono le2 _ _ rx, ry⟩
/-! ### displays -/
def gTup (ds : List D) : Res D := if ds.length ≤ sizeLine then .ok (.tup ds) else .bad
def gLst (ds : List D) : Res D := if ds.length ≤ sizeLine then .ok (.lst ds) else .bad
def eL {α : Type} (g : List D → Res α) (f : EM (List D)) : EM α := eBind f fun ds => eLift (g ds)
theorem gTup_noex (ds : List D) : Noex (gTup ds) := fun x h => by unfold gTup at h; split at h <;> cases h
theorem gLst_noex (ds : List D) : Noex (gLst ds) := fun x h => by unfold gLst at h; split at h <;> cases h
theorem de_tup {x1 : Nat} {fr : EM (List D)} (h : PA X es (sA X.K E os fr)) : PE X (.Tuple es x1 pos) (sD X.K E os (eL gTup fr)) := PE.weak (pe_tup h) fun σ H Q ⟨g, ρ, F, r, w⟩ => by
  refine tG.bind r w fun ds vs ρ1 H1 F1 hR1 le1 rx w1 => ?_
  obtain ⟨d, ed, w3⟩ := w1.lift2 (gTup_noex _)
  unfold gTup at ed
  split at ed
  · rename_i hl
    cases ed
    refine ⟨by rw [Reps.length rx]; exact hl, fun p hp => ?_⟩
    exact w3 (.ref p) _ _ (hR1.new hp (fun _ _ z => nomatch z)) (FLe.upd (hR1.none_of hp)) ⟨p, vs, rfl, .inl upd_same, Reps.mono (FLe.upd (hR1.none_of hp)) _ _ rx⟩
  · cases ed
/-- nobody's -/
theorem Free.new {K : Frag} {g : Gh} {ρ : Ev} {σ : L2.St} {H F : Hp} {p : Addr} {o : HO} {d : D} (r : R K g os ρ σ H F) (h : H p = none) (ho : OwnD K F (upd H p o) p d) : Free K os g ρ σ (upd H p o) F d p :=
  ⟨r.none_of h, ho, r.h0_none h, fun i e h1 h2 h3 => by
    obtain ⟨a, e1, _, e3, _⟩ := r.ow i e h1 h2
    rw [h3] at e1; cases e1
    obtain ⟨u, e5, _⟩ := e3.there
    rw [h] at e5; cases e5⟩
theorem do_lst {fr : EM (List D)} {k : Nat} (h : PA X es (sA X.K E os fr)) : PE X (.List es pos) (sO X.K E os (eL gLst fr)) := PE.weak (pe_lst h) fun σ H Q ⟨g, ρ, F, r, w⟩ => by
  refine tG.bind r w fun ds vs ρ1 H1 F1 hR1 le1 rx w1 => ?_
  obtain ⟨d, ed, w3⟩ := w1.lift2 (gLst_noex _)
  unfold gLst at ed
  split at ed
  · rename_i hl
    cases ed
    refine ⟨by rw [Reps.length rx]; exact hl, fun p hp => ?_⟩
    exact w3 (.ref p) _ _ (hR1.laid hp) FLe.refl ⟨p, rfl, Free.new hR1 hp ⟨vs, upd_same, rx⟩⟩
  · cases ed
/-! ### and, or, not, if else -/
def eAnd (f h : EM Bool) : EM Bool := eBind f fun c => if c = true then h else eRet false
def eOr (f h : EM Bool) : EM Bool := eBind f fun c => if c = true then eRet true else h
def eNot (f : EM Bool) : EM Bool := eBind f fun c => eRet (!c)
def eIf {α : Type} (f : EM Bool) (h k : EM α) : EM α := eBind f fun c => if c = true then h else k
variable {ft fu : EM Bool} {rest : List Expr}
theorem PW.weak {t t' : TT} (h : PW X e t) (w : ∀ σ H Q, t' σ H Q → t σ H Q) : PW X e t' := ⟨fun wh pins s σ H Q I q => h.run wh pins s σ H Q I (w σ H Q q)⟩
theorem dw_and (ha : PT X a (sB X.K E os ft)) (hb : PW X (.BoolOp .And (b :: rest) pos) (sB X.K E os fu)) : PW X (.BoolOp .And (a :: b :: rest) pos) (sB X.K E os (eAnd ft fu)) := PW.weak (pw_and ha hb) fun σ H Q ⟨g, ρ, F, r, w⟩ => by
  refine tG.bind r w fun c c' ρ1 H1 F1 hR1 le1 rx w1 => ?_
  have : c' = c := rx
  subst this
  cases c' with
  | true => exact ⟨g, ρ1, F1, hR1, w1⟩
  | false => exact w1 _ H1 F1 hR1 FLe.refl rfl
theorem dw_or (ha : PT X a (sB X.K E os ft)) (hb : PW X (.BoolOp .Or (b :: rest) pos) (sB X.K E os fu)) : PW X (.BoolOp .Or (a :: b :: rest) pos) (sB X.K E os (eOr ft fu)) := PW.weak (pw_or ha hb) fun σ H Q ⟨g, ρ, F, r, w⟩ => by
  refine tG.bind r w fun c c' ρ1 H1 F1 hR1 le1 rx w1 => ?_
  have : c' = c := rx
  subst this
  cases c' with
  | true => exact w1 _ H1 F1 hR1 FLe.refl rfl
  | false => exact ⟨g, ρ1, F1, hR1, w1⟩
theorem dt_not (ha : PT X a (sB X.K E os ft)) : PT X (.UnaryOp .Not a pos) (sB X.K E os (eNot ft)) := PT.weak (pt_not ha) fun σ H Q ⟨g, ρ, F, r, w⟩ => by
  refine tG.bind r w fun c c' ρ1 H1 F1 hR1 le1 rx w1 => ?_
  have : c' = c := rx
  subst this
  exact w1 _ H1 F1 hR1 FLe.refl rfl
/-- as values -/
theorem de_and {fb : EM Bool} (ha : PE X a (sD X.K E os (eBl ft))) (hb : PE X (.BoolOp .And (b :: rest) pos) (sD X.K E os (eBl fb))) : PE X (.BoolOp .And (a :: b :: rest) pos) (sD X.K E os (eBl (eAnd ft fb))) := PE.weak (pe_and ha hb) fun σ H Q h => by
  obtain ⟨g, ρ, F, r, w⟩ := rBl h
  unfold eAnd at w
  refine ⟨g, ρ, F, r, ?_⟩
  unfold eBl eBind
  unfold eBind at w
  cases q : ft ρ with
  | ok p =>
    obtain ⟨c, ρ1⟩ := p
    rw [q] at w
    intro v H1 F1 hR1 le rv
    have : v = .bl c := rv
    subst this
    refine ⟨c, rfl, ?_⟩
    cases c with
    | true =>
      refine ⟨g, ρ1, F1, hR1, ?_⟩
      have w' : WG X.K E os g σ F1 rB (fun b H' => Q (.bl b) H') (fb ρ1) := w.mono le
      dsimp only
      cases q2 : fb ρ1 with
      | ok p =>
        obtain ⟨c2, ρ2⟩ := p
        rw [q2] at w'
        intro v H2 F2 hR2 le2 rv2
        have : v = .bl c2 := rv2
        subst this
        exact w' c2 H2 F2 hR2 le2 rfl
      | exc x => rw [q2] at w'; exact w'
      | bad => rw [q2] at w'; exact w'
    | false => exact w false H1 F1 hR1 le rfl
  | exc x => rw [q] at w; exact w
  | bad => rw [q] at w; exact w
theorem de_or {fb : EM Bool} (ha : PE X a (sD X.K E os (eBl ft))) (hb : PE X (.BoolOp .Or (b :: rest) pos) (sD X.K E os (eBl fb))) : PE X (.BoolOp .Or (a :: b :: rest) pos) (sD X.K E os (eBl (eOr ft fb))) := PE.weak (pe_or ha hb) fun σ H Q h => by
  obtain ⟨g, ρ, F, r, w⟩ := rBl h
  unfold eOr at w
  refine ⟨g, ρ, F, r, ?_⟩
  unfold eBl eBind
  unfold eBind at w
  cases q : ft ρ with
  | ok p =>
    obtain ⟨c, ρ1⟩ := p
    rw [q] at w
    intro v H1 F1 hR1 le rv
    have : v = .bl c := rv
    subst this
    refine ⟨c, rfl, ?_⟩
    cases c with
    | false =>
      refine ⟨g, ρ1, F1, hR1, ?_⟩
      have w' : WG X.K E os g σ F1 rB (fun b H' => Q (.bl b) H') (fb ρ1) := w.mono le
      dsimp only
      cases q2 : fb ρ1 with
      | ok p =>
        obtain ⟨c2, ρ2⟩ := p
        rw [q2] at w'
        intro v H2 F2 hR2 le2 rv2
        have : v = .bl c2 := rv2
        subst this
        exact w' c2 H2 F2 hR2 le2 rfl
      | exc x => rw [q2] at w'; exact w'
      | bad => rw [q2] at w'; exact w'
    | true => exact w true H1 F1 hR1 le rfl
  | exc x => rw [q] at w; exact w
  | bad => rw [q] at w; exact w
theorem de_not (ha : PE X a (sD X.K E os (eBl ft))) : PE X (.UnaryOp .Not a pos) (sD X.K E os (eBl (eNot ft))) := PE.weak (pe_not ha) fun σ H Q h => by
  obtain ⟨g, ρ, F, r, w⟩ := rBl h
  unfold eNot at w
  refine ⟨g, ρ, F, r, ?_⟩
  unfold eBl eBind
  unfold eBind at w
  cases q : ft ρ with
  | ok p =>
    obtain ⟨c, ρ1⟩ := p
    rw [q] at w
    intro v H1 F1 hR1 le rv
    have : v = .bl c := rv
    subst this
    exact ⟨c, rfl, w _ H1 F1 hR1 le rfl⟩
  | exc x => rw [q] at w; exact w
  | bad => rw [q] at w; exact w
theorem de_if {c : Expr} {rl : Gh → Ev → L2.St → Hp → Hp → D → V → Prop} (hc : PT X c (sB X.K E os ft)) (ha : PE X a (tG X.K E os rl fa)) (hb : PE X b (tG X.K E os rl fb)) : PE X (.IfExp c a b pos) (tG X.K E os rl (eIf ft fa fb)) := PE.weak (pe_ifExp hc ha hb) fun σ H Q ⟨g, ρ, F, r, w⟩ => by
  refine tG.bind r w fun c c' ρ1 H1 F1 hR1 le1 rx w1 => ?_
  have : c' = c := rx
  subst this
  cases c' with
  | true => exact ⟨g, ρ1, F1, hR1, w1⟩
  | false => exact ⟨g, ρ1, F1, hR1, w1⟩
/-- a value that is True or False, as a test -/
def gBl : D → Res Bool
  | .bl b => .ok b
  | _ => .bad
theorem dt_val (h : PE X e (sD X.K E os fa)) (he : ∀ whole, isTrue e X.env whole = (do let v ← whole; standAt e.pos; holding [v] (truthy v)) := by intro _; rfl) : PT X e (sB X.K E os (e1 gBl fa)) := PT.weak (pt_val h he) fun σ H Q ⟨g, ρ, F, r, w⟩ => by
  refine tG.bind r w fun d v ρ1 H1 F1 hR1 le1 rx w1 => ?_
  cases d with
  | bl b =>
    have : v = .bl b := rx
    subst this
    exact ⟨b, rfl, w1 b H1 F1 hR1 FLe.refl rfl⟩
  | _ => exact w1.elim
end
end DL
/-! DL3: statements, loops, a def's promise. -/
namespace DL
open PySem PySem.Spec L2
set_option autoImplicit false
inductive Fl where
  | nx | rt (d : D) | bk | ct
abbrev SM := Ev → Res (Fl × Ev)
/-- what a def's body keeps to: does it hand back a new object; what is owned at a loop's turns' ends; the slots of lent objects -/
structure Md where
  rtm : Bool
  ol : List Bool
  pp : List Nat
  kt : List Nat := []
def Stat (g : Gh) (md : Md) : Prop := g.pn.map (·.1) = md.pp ∧ g.kt = md.kt
/-- what is handed back -/
def RetOk (K : Frag) (rtm : Bool) (g : Gh) (H F : Hp) (d : D) (v : V) : Prop :=
  match rtm with
  | false => Rep K F d v
  | true => ∃ a, v = .ref a ∧ F a = none ∧ OwnD K F H a d ∧ g.H0 a = none
section
variable (K : Frag) (E : XK) (md : Md) (os os' : List Bool)
def WS (g : Gh) (F : Hp) (Dn : Ends) : Res (Fl × Ev) → Prop
  | .ok (.nx, ρ') => ∀ σ' H' F', R K g os' ρ' σ' H' F' → FLe F F' → Dn.nx σ' H'
  | .ok (.rt d, ρ') => ∀ v σ' H' F' osr, R K g osr ρ' σ' H' F' → RetOk K md.rtm g H' F' d v → Dn.rt v H'
  | .ok (.bk, ρ') => ∀ σ' H' F', R K g md.ol ρ' σ' H' F' → FLe F F' → Dn.bk σ' H'
  | .ok (.ct, ρ') => ∀ σ' H' F', R K g md.ol ρ' σ' H' F' → FLe F F' → Dn.ct σ' H'
  | .exc x => ∀ c dd H' F', ExcOk K g x c dd H' F' → E c dd H'
  | .bad => False
def tS (f : SM) : TS := fun Dn σ H => ∃ g ρ F, R K g os ρ σ H F ∧ Stat g md ∧ WS K E md os' g F Dn (f ρ)
end
def sSeq (f h : SM) : SM := fun ρ => match f ρ with
  | .ok (.nx, ρ') => h ρ'
  | r => r
def sNil : SM := fun ρ => .ok (.nx, ρ)
def sSet (i : Nat) (f : EM D) : SM := fun ρ => match f ρ with
  | .ok (d, ρ') => .ok (.nx, ρ'.set i (some d))
  | .exc x => .exc x
  | .bad => .bad
def sRet (f : EM D) : SM := fun ρ => match f ρ with
  | .ok (d, ρ') => .ok (.rt d, ρ')
  | .exc x => .exc x
  | .bad => .bad
def sDrop {α : Type} (f : EM α) : SM := fun ρ => match f ρ with
  | .ok (_, ρ') => .ok (.nx, ρ')
  | .exc x => .exc x
  | .bad => .bad
def sIf (c : EM Bool) (f h : SM) : SM := fun ρ => match c ρ with
  | .ok (true, ρ') => f ρ'
  | .ok (false, ρ') => h ρ'
  | .exc x => .exc x
  | .bad => .bad
def sBrk : SM := fun ρ => .ok (.bk, ρ)
def sCont : SM := fun ρ => .ok (.ct, ρ)
def sBad : SM := fun _ => .bad
/-- a target takes a datum -/
abbrev Tgt := D → Ev → Res Ev
def gSet (i : Nat) : Tgt := fun d ρ => .ok (ρ.set i (some d))
abbrev Tgts := List D → Ev → Res Ev
def gsNil : Tgts := fun ds ρ => match ds with
  | [] => .ok ρ
  | _ => .bad
def gsCons (t : Tgt) (u : Tgts) : Tgts := fun ds ρ => match ds with
  | d :: r => (match t d ρ with
    | .ok ρ' => u r ρ'
    | _ => .bad)
  | [] => .bad
def gTupT (n : Nat) (u : Tgts) : Tgt := fun d ρ => match d with
  | .tup ds => if ds.length = n then u ds ρ else .bad
  | _ => .bad
def forM (t : Tgt) (b : SM) : List D → SM
  | [], ρ => .ok (.nx, ρ)
  | d :: ds, ρ => match t d ρ with
    | .ok ρ1 => (match b ρ1 with
      | .ok (.nx, ρ2) => forM t b ds ρ2
      | .ok (.ct, ρ2) => forM t b ds ρ2
      | .ok (.bk, ρ2) => .ok (.nx, ρ2)
      | .ok (.rt d, ρ2) => .ok (.rt d, ρ2)
      | .exc x => .exc x
      | .bad => .bad)
    | _ => .bad
def sFor (f : EM (List D)) (t : Tgt) (b : SM) : SM := fun ρ => match f ρ with
  | .ok (ds, ρ') => forM t b ds ρ'
  | .exc x => .exc x
  | .bad => .bad
def whM (c : EM Bool) (b : SM) : Nat → SM
  | 0, _ => .bad
  | n + 1, ρ => match c ρ with
    | .ok (true, ρ1) => (match b ρ1 with
      | .ok (.nx, ρ2) => whM c b n ρ2
      | .ok (.ct, ρ2) => whM c b n ρ2
      | .ok (.bk, ρ2) => .ok (.nx, ρ2)
      | .ok (.rt d, ρ2) => .ok (.rt d, ρ2)
      | .exc x => .exc x
      | .bad => .bad)
    | .ok (false, ρ1) => .ok (.nx, ρ1)
    | .exc x => .exc x
    | .bad => .bad
section
variable {K : Frag} {E : XK} {md : Md} {os os' os1 : List Bool} {g : Gh} {F F1 : Hp} {Dn : Ends}
theorem WS.mono (l : FLe F F1) : ∀ {r : Res (Fl × Ev)}, WS K E md os' g F Dn r → WS K E md os' g F1 Dn r
  | .ok (.nx, ρ'), h => fun σ' H' F' hR le => h σ' H' F' hR (l.trans le)
  | .ok (.rt d, ρ'), h => h
  | .ok (.bk, ρ'), h => fun σ' H' F' hR le => h σ' H' F' hR (l.trans le)
  | .ok (.ct, ρ'), h => fun σ' H' F' hR le => h σ' H' F' hR (l.trans le)
  | .exc x, h => h
  | .bad, h => h
end
section
variable {X : Cx} {E : XK} {md : Md} {os os' os1 : List Bool} {a b e c : Expr} {st : Stmt} {rest sts : List Stmt} {pos : Pos} {fa : EM D} {f h : SM}
theorem PS.weak {t t' : TS} (h : PS X st t) (w : ∀ σ H Q, t' Q σ H → t Q σ H) : PS X st t' := ⟨fun pins s σ H Q I q => h.run pins s σ H Q I (w σ H Q q)⟩
theorem PSs.weak {t t' : TS} (h : PSs X sts t) (w : ∀ σ H Q, t' Q σ H → t Q σ H) : PSs X sts t' := ⟨fun pins s σ H Q I q => h.run pins s σ H Q I (w σ H Q q)⟩
theorem PS.or {t t' : TS} (h : PS X st t) (h' : PS X st t') : PS X st (fun D σ H => t D σ H ∨ t' D σ H) := ⟨fun pins s σ H Q I q => q.elim (h.run pins s σ H Q I) (h'.run pins s σ H Q I)⟩
theorem dss_nil : PSs X [] (tS X.K E md os os sNil) := PSs.weak pss_nil fun σ H Q ⟨g, ρ, F, r, _, w⟩ => w σ H F r FLe.refl
theorem dss_cons (h1 : PS X st (tS X.K E md os os1 f)) (h2 : PSs X rest (tS X.K E md os1 os' h)) : PSs X (st :: rest) (tS X.K E md os os' (sSeq f h)) := PSs.weak (pss_cons h1 h2) fun σ H Q ⟨g, ρ, F, r, hp, w⟩ => by
  refine ⟨g, ρ, F, r, hp, ?_⟩
  unfold sSeq at w
  cases q : f ρ with
  | ok p =>
    obtain ⟨fl, ρ'⟩ := p
    rw [q] at w
    cases fl with
    | nx => exact fun σ' H' F' hR le => ⟨g, ρ', F', hR, hp, w.mono le⟩
    | rt d => exact w
    | bk => exact w
    | ct => exact w
  | exc x => rw [q] at w; exact w
  | bad => rw [q] at w; exact w
theorem pin_not {g : Gh} {md : Md} (hp : Stat g md) {i : Nat} (hi : i ∉ md.pp) : ∀ a, (i, a) ∉ g.pn := fun a h => hi (by rw [← hp.1]; exact List.mem_map.mpr ⟨(i, a), h, rfl⟩)
/-- an owned object becomes data: nothing is done -/
theorem dss_fz (i : Nat) (hi : i ∉ md.pp) (h1 : PSs X sts (tS X.K E md (os.set i false) os' f)) : PSs X sts (tS X.K E md os os' f) := PSs.weak h1 fun σ H Q ⟨g, ρ, F, r, hp, w⟩ => by
  obtain ⟨F', r', le⟩ := r.freeze i (pin_not hp hi)
  exact ⟨g, ρ, F', r', hp, w.mono le⟩
theorem ds_fz (i : Nat) (hi : i ∉ md.pp) (h1 : PS X st (tS X.K E md (os.set i false) os' f)) : PS X st (tS X.K E md os os' f) := PS.weak h1 fun σ H Q ⟨g, ρ, F, r, hp, w⟩ => by
  obtain ⟨F', r', le⟩ := r.freeze i (pin_not hp hi)
  exact ⟨g, ρ, F', r', hp, w.mono le⟩
theorem kt_not {g : Gh} {md : Md} (hp : Stat g md) {i : Nat} (hk : i ∉ md.kt) : i ∉ g.kt := fun h => hk (by rw [← hp.2]; exact h)
theorem ds_set {i : Nat} {tg : Expr} (hs : ∀ {te : TE}, PE X e te → PS X st (tAsg te (gName i))) (hi : i ∉ md.pp) (hk : i ∉ md.kt) (he : PE X e (sD X.K E os fa)) : PS X st (tS X.K E md os (os.set i false) (sSet i fa)) := PS.weak (hs he) fun σ H Q ⟨g, ρ, F, r, hp, w⟩ => by
  refine ⟨g, ρ, F, r, ?_⟩
  unfold sSet at w
  cases q : fa ρ with
  | ok p =>
    obtain ⟨d, ρ'⟩ := p
    rw [q] at w
    exact fun v H' F' hR le hv => w _ H' F' (hR.put (pin_not hp hi) (fun z => absurd z (kt_not hp hk)) hv) le
  | exc x => rw [q] at w; exact w
  | bad => rw [q] at w; exact w
/-- a key: a datum that, if it is a tuple, stands in the heap -/
def rK (K : Frag) : Gh → Ev → L2.St → Hp → Hp → D → V → Prop := fun _ _ _ H F d v => Rep K F d v ∧ ∀ b, v = .ref b → ∃ xs, H b = some (.tup xs)
theorem ds_setK {i : Nat} {tg : Expr} (hs : ∀ {te : TE}, PE X e te → PS X st (tAsg te (gName i))) (hi : i ∉ md.pp) (he : PE X e (tG X.K E os (rK X.K) fa)) : PS X st (tS X.K E md os (os.set i false) (sSet i fa)) := PS.weak (hs he) fun σ H Q ⟨g, ρ, F, r, hp, w⟩ => by
  refine ⟨g, ρ, F, r, ?_⟩
  unfold sSet at w
  cases q : fa ρ with
  | ok p =>
    obtain ⟨d, ρ'⟩ := p
    rw [q] at w
    exact fun v H' F' hR le hv => w _ H' F' (hR.put (pin_not hp hi) (fun _ => hv.2) hv.1) le
  | exc x => rw [q] at w; exact w
  | bad => rw [q] at w; exact w
theorem ds_setO {i : Nat} {tg : Expr} (hs : ∀ {te : TE}, PE X e te → PS X st (tAsg te (gName i))) (hi : i ∉ md.pp) (hk : i ∉ md.kt) (he : PE X e (sO X.K E os fa)) : PS X st (tS X.K E md os (os.set i true) (sSet i fa)) := PS.weak (hs he) fun σ H Q ⟨g, ρ, F, r, hp, w⟩ => by
  refine ⟨g, ρ, F, r, ?_⟩
  unfold sSet at w
  cases q : fa ρ with
  | ok p =>
    obtain ⟨d, ρ'⟩ := p
    rw [q] at w
    intro v H' F' hR le ⟨a, ea, fr⟩
    subst ea
    exact w _ H' F' (hR.own (pin_not hp hi) (kt_not hp hk) fr.f fr.own fr.h0 fun j e _ h1 h2 => fr.ne j e h1 h2) le
  | exc x => rw [q] at w; exact w
  | bad => rw [q] at w; exact w
theorem ds_expr {α : Type} {rl : Gh → Ev → L2.St → Hp → Hp → D → V → Prop} (hs : ∀ {te : TE}, PE X e te → PS X st (tDrop te)) (he : PE X e (tG X.K E os rl fa)) : PS X st (tS X.K E md os os (sDrop fa)) := PS.weak (hs he) fun σ H Q ⟨g, ρ, F, r, hp, w⟩ => by
  refine ⟨g, ρ, F, r, ?_⟩
  unfold sDrop at w
  cases q : fa ρ with
  | ok p =>
    obtain ⟨d, ρ'⟩ := p
    rw [q] at w
    exact fun v H' F' hR le hv => w _ H' F' hR le
  | exc x => rw [q] at w; exact w
  | bad => rw [q] at w; exact w
theorem ds_ret (hm : md.rtm = false) (he : PE X e (sD X.K E os fa)) : PS X (.Return (some e) pos) (tS X.K E md os os' (sRet fa)) := PS.weak (ps_ret he) fun σ H Q ⟨g, ρ, F, r, hp, w⟩ => by
  refine ⟨g, ρ, F, r, ?_⟩
  unfold sRet at w
  cases q : fa ρ with
  | ok p =>
    obtain ⟨d, ρ'⟩ := p
    rw [q] at w
    exact fun v H' F' hR le hv => w v σ H' F' os hR (by rw [hm]; exact hv)
  | exc x => rw [q] at w; exact w
  | bad => rw [q] at w; exact w
theorem ds_retO (hm : md.rtm = true) (he : PE X e (sO X.K E os fa)) : PS X (.Return (some e) pos) (tS X.K E md os os' (sRet fa)) := PS.weak (ps_ret he) fun σ H Q ⟨g, ρ, F, r, hp, w⟩ => by
  refine ⟨g, ρ, F, r, ?_⟩
  unfold sRet at w
  cases q : fa ρ with
  | ok p =>
    obtain ⟨d, ρ'⟩ := p
    rw [q] at w
    exact fun v H' F' hR le ⟨a, ea, fr⟩ => w v σ H' F' os hR (by rw [hm]; exact ⟨a, ea, fr.f, fr.own, fr.h0⟩)
  | exc x => rw [q] at w; exact w
  | bad => rw [q] at w; exact w
/-- a slot's own object is handed back -/
theorem ds_retN {i : Nat} (hm : md.rtm = true) (hi : i ∉ md.pp) (ho : os[i]? = some true) (he : PE X e (tVar i)) : PS X (.Return (some e) pos) (tS X.K E md os os' (sRet (eVar i))) := PS.weak (ps_ret he) fun σ H Q ⟨g, ρ, F, r, hp, w⟩ => by
  unfold sRet at w
  cases q : eVar i ρ with
  | ok p =>
    obtain ⟨d, ρ'⟩ := p
    rw [q] at w
    obtain ⟨h1, rfl⟩ := eVar_ok q
    obtain ⟨a, e1, e2, e3, e4⟩ := r.ow i d ho h1
    refine ⟨.ref a, e1, w _ σ H F os r ?_⟩
    rw [hm]
    refine ⟨a, rfl, e2, e3, ?_⟩
    rcases e4 with ⟨j, hj⟩ | hn
    · obtain ⟨q1, ⟨d2, q2⟩, q3⟩ := r.pin j a hj
      exact (r.dj i j d d2 a (fun z => by subst z; exact pin_not hp hi a hj) ho q1 h1 q2 e1 q3).elim
    · exact hn
  | exc x =>
    unfold eVar at q
    split at q <;> cases q
  | bad => rw [q] at w; exact w.elim
theorem ds_if {sa sb : List Stmt} {ft : EM Bool} (hc : PT X c (sB X.K E os ft)) (ha : PSs X sa (tS X.K E md os os' f)) (hb : PSs X sb (tS X.K E md os os' h)) : PS X (.If c sa sb pos) (tS X.K E md os os' (sIf ft f h)) := PS.weak (ps_if hc ha hb) fun σ H Q ⟨g, ρ, F, r, hp, w⟩ => by
  refine ⟨g, ρ, F, r, ?_⟩
  unfold sIf at w
  cases q : ft ρ with
  | ok p =>
    obtain ⟨d, ρ'⟩ := p
    rw [q] at w
    intro v H' F' hR le hv
    have : v = d := hv
    subst this
    cases v with
    | true => exact ⟨g, ρ', F', hR, hp, w.mono le⟩
    | false => exact ⟨g, ρ', F', hR, hp, w.mono le⟩
  | exc x => rw [q] at w; exact w
  | bad => rw [q] at w; exact w
theorem ds_pass : PS X (.Pass pos) (tS X.K E md os os sNil) := PS.weak ps_pass fun σ H Q ⟨g, ρ, F, r, _, w⟩ => w σ H F r FLe.refl
theorem ds_brk (ho : os = md.ol) : PS X (.Break pos) (tS X.K E md os os' sBrk) := PS.weak ps_break fun σ H Q ⟨g, ρ, F, r, _, w⟩ => by
  subst ho
  exact w σ H F r FLe.refl
theorem ds_cont (ho : os = md.ol) : PS X (.Continue pos) (tS X.K E md os os' sCont) := PS.weak ps_continue fun σ H Q ⟨g, ρ, F, r, _, w⟩ => by
  subst ho
  exact w σ H F r FLe.refl
theorem ds_never : PS X st (tS X.K E md os os' sBad) := PS.weak ps_never fun σ H Q ⟨g, ρ, F, r, _, w⟩ => w
theorem dss_never : PSs X sts (tS X.K E md os os' sBad) := PSs.weak pss_never fun σ H Q ⟨g, ρ, F, r, _, w⟩ => w
/-! ### targets -/
def tT (K : Frag) (md : Md) (os os' : List Bool) (t : Tgt) : TG := fun v σ H Q => ∃ g ρ F d ρ', R K g os ρ σ H F ∧ Stat g md ∧ Rep K F d v ∧ t d ρ = .ok ρ' ∧ ∀ σ', R K g os' ρ' σ' H F → Q σ' H
def tTs (K : Frag) (md : Md) (os os' : List Bool) (t : Tgts) : TGs := fun vs σ H Q => ∃ g ρ F ds ρ', R K g os ρ σ H F ∧ Stat g md ∧ Reps K F ds vs ∧ t ds ρ = .ok ρ' ∧ ∀ σ', R K g os' ρ' σ' H F → Q σ' H
theorem PG.weak {tg : Expr} {t t' : TG} (h : PG X tg t) (w : ∀ v σ H Q, t' v σ H Q → t v σ H Q) : PG X tg t' := ⟨fun pins s σ H v u Q I r q => h.run pins s σ H v u Q I r (w v σ H Q q)⟩
theorem PGs.weak {ts : List Expr} {t t' : TGs} (h : PGs X ts t) (w : ∀ v σ H Q, t' v σ H Q → t v σ H Q) : PGs X ts t' := ⟨fun pins s σ H v u Q I r q => h.run pins s σ H v u Q I r (w v σ H Q q)⟩
variable {tgt : Tgt} {tgts : Tgts} {tg : Expr} {tgs : List Expr}
theorem dg_name {i : Nat} (h : PG X tg (gName i)) (hi : i ∉ md.pp) (hk : i ∉ md.kt) : PG X tg (tT X.K md os (os.set i false) (gSet i)) := PG.weak h fun v σ H Q ⟨g, ρ, F, d, ρ', r, hp, hv, e, w⟩ => by
  cases e
  exact w _ (r.put (pin_not hp hi) (fun z => absurd z (kt_not hp hk)) hv)
theorem dgs_nil : PGs X [] (tTs X.K md os os gsNil) := PGs.weak pgs_nil fun vs σ H Q ⟨g, ρ, F, ds, ρ', r, hp, hv, e, w⟩ => by
  unfold gsNil at e
  split at e
  · cases e
    exact ⟨hv, w σ r⟩
  · cases e
theorem dgs_cons (h1 : PG X tg (tT X.K md os os1 tgt)) (h2 : PGs X tgs (tTs X.K md os1 os' tgts)) (hs : (assignEach (tg :: tgs) X.env).map (·.2) = assign tg X.env :: (assignEach tgs X.env).map (·.2) := by rfl) : PGs X (tg :: tgs) (tTs X.K md os os' (gsCons tgt tgts)) :=
  PGs.weak (pgs_cons h1 h2 hs) fun vs σ H Q ⟨g, ρ, F, ds, ρ', r, hp, hv, e, w⟩ => by
    cases ds with
    | nil => cases e
    | cons d ds =>
      obtain ⟨v, rr, e1, h3, h4⟩ := hv
      subst e1
      have e' : (match tgt d ρ with
        | .ok ρ' => tgts ds ρ'
        | _ => .bad) = .ok ρ' := e
      cases q : tgt d ρ with
      | ok ρ1 =>
        rw [q] at e'
        exact ⟨v, rr, rfl, g, ρ, F, d, ρ1, r, hp, h3, q, fun σ' r' => ⟨g, ρ1, F, ds, ρ', r', hp, h4, e', w⟩⟩
      | exc x => rw [q] at e'; cases e'
      | bad => rw [q] at e'; cases e'
theorem dg_tup {k n : Nat} (hc : X.calm = true) (h : PGs X tgs (tTs X.K md os os' tgts)) (hn : (assignEach tgs X.env).length = n := by rfl) (hst : (assignEach tgs X.env).findIdx? (·.1) = none := by rfl) : PG X (.Tuple tgs k pos) (tT X.K md os os' (gTupT n tgts)) :=
  PG.weak (pg_tup hc h hn hst) fun v σ H Q ⟨g, ρ, F, d, ρ', r, hp, hv, e, w⟩ => by
    cases d with
    | tup ds =>
      obtain ⟨a, vs, ea, ht, hr⟩ := hv
      have e' : (if ds.length = n then tgts ds ρ else .bad) = .ok ρ' := e
      split at e'
      · rename_i hl
        exact ⟨a, vs, ea, ht.sq r.sub, by rw [hr.length]; exact hl, g, ρ, F, ds, ρ', r, hp, hr, e', w⟩
      · cases e'
    | _ => cases e
/-- target = e -/
def sAsg (f : EM D) (t : Tgt) : SM := fun ρ => match f ρ with
  | .ok (d, ρ') => (match t d ρ' with
    | .ok ρ2 => .ok (.nx, ρ2)
    | _ => .bad)
  | .exc x => .exc x
  | .bad => .bad
theorem ds_asg (hs : ∀ {te : TE} {g : TG}, PE X e te → PG X tg g → PS X st (tAsg te g)) (he : PE X e (sD X.K E os fa)) (hg : PG X tg (tT X.K md os os' tgt)) : PS X st (tS X.K E md os os' (sAsg fa tgt)) := PS.weak (hs he hg) fun σ H Q ⟨g, ρ, F, r, hp, w⟩ => by
  refine ⟨g, ρ, F, r, ?_⟩
  unfold sAsg at w
  cases q : fa ρ with
  | ok p =>
    obtain ⟨d, ρ'⟩ := p
    rw [q] at w
    intro v H' F' hR le hv
    dsimp only at w
    cases q2 : tgt d ρ' with
    | ok ρ2 =>
      rw [q2] at w
      exact ⟨g, ρ', F', d, ρ2, hR, hp, hv, q2, fun σ' r' => w σ' H' F' r' le⟩
    | exc x => rw [q2] at w; exact w.elim
    | bad => rw [q2] at w; exact w.elim
  | exc x => rw [q] at w; exact w
  | bad => rw [q] at w; exact w
/-! ### for -/
/-- nothing but new objects -/
def Kp (H F H' F' : Hp) : Prop := (∀ b o, H b = some o → H' b = some o) ∧ ∀ b u, F' b = some u → F b = some u ∨ H b = none ∨ ∃ xs, u = .tup xs ∧ H b = some (.tup xs)
theorem Kp.refl {H F : Hp} : Kp H F H F := ⟨fun _ _ h => h, fun _ _ h => .inl h⟩
/-- J yields the data ds, one after another, wherever F is kept -/
def ItD (K : Frag) (g : Gh) (F : Hp) (ds : List D) (J : It) : Prop := ∀ (os : List Bool) (ρ : Ev) (σ : L2.St) (H F' : Hp) (i : Nat), R K g os ρ σ H F' → FLe F F' →
  (∀ d, ds[i]? = some d → J.go i H ∧ ∀ x H', J.yld i H x H' → ∃ F2, R K g os ρ σ H' F2 ∧ FLe F' F2 ∧ Rep K F2 d x ∧ Kp H F' H' F2) ∧ (ds.length = i → J.stop i H)
def rI (K : Frag) : Gh → Ev → L2.St → Hp → Hp → List D → It → Prop := fun g _ _ _ F ds J => ItD K g F ds J
abbrev sI (K : Frag) (E : XK) (os : List Bool) (f : EM (List D)) : TI := tG K E os (rI K) f
theorem PI.weak {iter : Expr} {t t' : TI} (h : PI X tg iter t) (w : ∀ σ H Q, t' σ H Q → t σ H Q) : PI X tg iter t' := ⟨fun pins s σ H Q I q => h.run pins s σ H Q I (w σ H Q q)⟩
theorem PI.or {iter : Expr} {t t' : TI} (h : PI X tg iter t) (h' : PI X tg iter t') : PI X tg iter (fun σ H Q => t σ H Q ∨ t' σ H Q) := ⟨fun pins s σ H Q I q => q.elim (h.run pins s σ H Q I) (h'.run pins s σ H Q I)⟩
theorem ItD.list {K : Frag} {g : Gh} {F : Hp} {ds : List D} {a : Addr} {vs : List V} (h : LAt K F a vs) (r : Reps K F ds vs) : ItD K g F ds (Itl K a) := by
  intro os ρ σ H F' i hR le
  have hs := (h.mono le).sq hR.sub
  refine ⟨fun d hd => ?_, fun hl => ⟨vs, hs, by rw [r.length]; omega⟩⟩
  obtain ⟨v, hv, rv⟩ := r.get hd
  refine ⟨⟨vs, v, hs, hv⟩, fun x H' ⟨e, hx⟩ => ?_⟩
  subst e
  have := hx vs hs
  rw [hv] at this
  cases this
  exact ⟨F', hR, FLe.refl, Rep.mono le _ _ rv, Kp.refl⟩
theorem ItD.tuple {K : Frag} {g : Gh} {F : Hp} {ds : List D} {a : Addr} {vs : List V} (h : TAt K F a vs) (r : Reps K F ds vs) : ItD K g F ds (Itt K a) := by
  intro os ρ σ H F' i hR le
  have hs := (h.mono le).sq hR.sub
  refine ⟨fun d hd => ?_, fun hl => ⟨vs, hs, by rw [r.length]; omega⟩⟩
  obtain ⟨v, hv, rv⟩ := r.get hd
  refine ⟨⟨vs, v, hs, hv⟩, fun x H' ⟨e, hx⟩ => ?_⟩
  subst e
  have := hx vs hs
  rw [hv] at this
  cases this
  exact ⟨F', hR, FLe.refl, Rep.mono le _ _ rv, Kp.refl⟩
theorem ItD.range {K : Frag} {g : Gh} {F : Hp} {lo : Int} {n : Nat} : ItD K g F ((List.range n).map fun (i : Nat) => D.int (lo + (i : Int))) (Itr lo n) := by
  intro os ρ σ H F' i hR le
  refine ⟨fun d hd => ?_, fun hl => ?_⟩
  · rw [List.getElem?_map] at hd
    have hi : i < n := by
      by_cases q : i < n
      · exact q
      · rw [List.getElem?_eq_none_iff.mpr (by rw [List.length_range]; omega)] at hd; cases hd
    rw [List.getElem?_range hi] at hd
    cases hd
    refine ⟨hi, fun x H' ⟨e, hx⟩ => ?_⟩
    subst e
    exact ⟨F', hR, FLe.refl, hx, Kp.refl⟩
  · rw [List.length_map, List.length_range] at hl
    exact Nat.le_of_eq hl
/-- the items of a list or a tuple -/
def gItems : D → Res (List D)
  | .lst ds => .ok ds
  | .tup ds => .ok ds
  | _ => .bad
theorem gItems_noex (d : D) : Noex (gItems d) := fun x h => by cases d <;> cases h
theorem di_seq {iter : Expr} (h : PE X iter (sD X.K E os fa)) : PI X tg iter (sI X.K E os (e1 gItems fa)) := PI.weak (PI.or (pi_list h) (pi_tup h)) fun σ H Q ⟨g, ρ, F, r, w⟩ => by
  unfold e1 eBind at w
  cases q : fa ρ with
  | ok p =>
    obtain ⟨d, ρ'⟩ := p
    rw [q] at w
    obtain ⟨ds, ed⟩ := WG.okOf (gItems_noex _) w
    have w2 := WG.lift w ed
    cases d with
    | lst xs =>
      cases ed
      left
      refine ⟨g, ρ, F, r, ?_⟩
      rw [q]
      intro v H' F' hR le ⟨a, vs, ea, ha, hr⟩
      exact ⟨a, ea, ⟨vs, ha.sq hR.sub⟩, w2 _ H' F' hR le (.list ha hr)⟩
    | tup xs =>
      cases ed
      right
      refine ⟨g, ρ, F, r, ?_⟩
      rw [q]
      intro v H' F' hR le ⟨a, vs, ea, ha, hr⟩
      exact ⟨a, ea, ⟨vs, ha.sq hR.sub⟩, w2 _ H' F' hR le (.tuple ha hr)⟩
    | _ => cases ed
  | exc x =>
    rw [q] at w
    left
    refine ⟨g, ρ, F, r, ?_⟩
    rw [q]; exact w
  | bad => rw [q] at w; exact w.elim
end
end DL
/-! DL4: loops, a dict walked, a def's promise, calls. -/
namespace DL
open PySem PySem.Spec L2
set_option autoImplicit false
section
variable {K : Frag} {E : XK} {md : Md} {os os1 : List Bool} {g : Gh} {t : Tgt} {b : SM} {tb : TS} {gt : TG} {D0 : Ends} {J : It}
/-- the turns -/
theorem for_turns (hpp : Stat g md) {F : Hp} {ds : List D} (hJ : ItD K g F ds J)
    (hg : ∀ v σ H Q, tT K md os os1 t v σ H Q → gt v σ H Q) (hb : ∀ Dn σ H, tS K E { md with ol := os } os1 os b Dn σ H → tb Dn σ H)
    {σ : L2.St} {H : Hp} {ρ : Ev} (hR : R K g os ρ σ H F) (w : WS K E md os g F D0 (forM t b ds ρ)) :
    ∃ W : Nat → Nat → L2.St → Hp → Prop, (∃ m, W 0 m σ H) ∧ ∀ i m σ H, W i m σ H →
      (J.stop i H ∧ D0.nx σ H) ∨ (J.go i H ∧ ∃ N : L2.St → Hp → Prop, (∀ σ' H', N σ' H' → ∃ m', m' < m ∧ W (i + 1) m' σ' H') ∧ ∀ x H', J.yld i H x H' → gt x σ H' fun σ2 H2 => tb { D0 with nx := N, ct := N, bk := D0.nx } σ2 H2) := by
  refine ⟨fun i m σ H => m = ds.length - i ∧ i ≤ ds.length ∧ ∃ ρ F', R K g os ρ σ H F' ∧ FLe F F' ∧ WS K E md os g F' D0 (forM t b (ds.drop i) ρ), ⟨ds.length, by simp, Nat.zero_le _, ρ, F, hR, FLe.refl, w⟩, ?_⟩
  rintro i m σ H ⟨rfl, hi, ρ, F', hR, le, w⟩
  obtain ⟨h1, h2⟩ := hJ os ρ σ H F' i hR le
  by_cases hlt : i < ds.length
  · right
    obtain ⟨go, hy⟩ := h1 ds[i] (List.getElem?_eq_getElem hlt)
    have hd : ds.drop i = ds[i] :: ds.drop (i + 1) := (List.drop_eq_getElem_cons hlt)
    rw [hd] at w
    refine ⟨go, fun σ' H' => ∃ ρ' F2, R K g os ρ' σ' H' F2 ∧ FLe F F2 ∧ WS K E md os g F2 D0 (forM t b (ds.drop (i + 1)) ρ'), fun σ' H' ⟨ρ', F2, hR2, le2, w2⟩ => ⟨ds.length - (i + 1), by omega, rfl, hlt, ρ', F2, hR2, le2, w2⟩, fun x H' y => ?_⟩
    obtain ⟨F2, hR2, le2, hx, _⟩ := hy x H' y
    have w' : WS K E md os g F' D0 (match t ds[i] ρ with
      | .ok ρ1 => (match b ρ1 with
        | .ok (.nx, ρ2) => forM t b (ds.drop (i + 1)) ρ2
        | .ok (.ct, ρ2) => forM t b (ds.drop (i + 1)) ρ2
        | .ok (.bk, ρ2) => .ok (.nx, ρ2)
        | .ok (.rt d, ρ2) => .ok (.rt d, ρ2)
        | .exc x => .exc x
        | .bad => .bad)
      | _ => .bad) := w
    cases q : t ds[i] ρ with
    | ok ρ1 =>
      rw [q] at w'
      refine hg _ _ _ _ ⟨g, ρ, F2, ds[i], ρ1, hR2, hpp, hx, q, fun σ1 hR3 => ?_⟩
      refine hb _ _ _ ⟨g, ρ1, F2, hR3, hpp, ?_⟩
      have w2 := w'.mono le2
      dsimp only at w2
      cases q2 : b ρ1 with
      | ok p =>
        obtain ⟨fl, ρ2⟩ := p
        rw [q2] at w2
        cases fl with
        | nx => exact fun σ4 H4 F4 hR4 le4 => ⟨ρ2, F4, hR4, le.trans (le2.trans le4), w2.mono le4⟩
        | ct => exact fun σ4 H4 F4 hR4 le4 => ⟨ρ2, F4, hR4, le.trans (le2.trans le4), w2.mono le4⟩
        | bk => exact w2
        | rt d => exact w2
      | exc x => rw [q2] at w2; exact w2
      | bad => rw [q2] at w2; exact w2.elim
    | exc x => rw [q] at w'; exact w'.elim
    | bad => rw [q] at w'; exact w'.elim
  · left
    have e : i = ds.length := by omega
    subst e
    refine ⟨h2 rfl, ?_⟩
    rw [List.drop_length] at w
    exact w σ H F' hR FLe.refl
end
section
variable {X : Cx} {E : XK} {md : Md} {os os1 : List Bool} {iter tg : Expr} {body : List Stmt} {pos : Pos} {f : EM (List D)} {t : Tgt} {b : SM}
theorem ds_for (hp : PassesOwn (model X.prog X.w) X.A X.env X.xe) (hc : X.calm = true) (hi : PI X tg iter (sI X.K E os f)) (hg : PG X tg (tT X.K md os os1 t)) (hb : PSs X body (tS X.K E { md with ol := os } os1 os b))
    (hs : ∀ x, foldedSetIterable iter X.env x = pure x := by intro _; rfl) : PS X (.For tg iter body [] pos) (tS X.K E md os os (sFor f t b)) :=
  PS.weak (ps_for hp hc hi hg hb hs) fun σ H Q ⟨g, ρ, F, r, hpp, w⟩ => by
    refine ⟨g, ρ, F, r, ?_⟩
    unfold sFor at w
    cases q : f ρ with
    | ok p =>
      obtain ⟨ds, ρ'⟩ := p
      rw [q] at w
      intro J H' F' hR le hJ
      exact for_turns hpp hJ (fun v σ H Q h => h) (fun Dn σ H h => h) hR (WS.mono le w)
    | exc x => rw [q] at w; exact w
    | bad => rw [q] at w; exact w
theorem ds_while {c : Expr} {ft : EM Bool} {n : Nat} (hp : PassesOwn (model X.prog X.w) X.A X.env X.xe) (hc : PT X c (sB X.K E os ft)) (hb : PSs X body (tS X.K E { md with ol := os } os os b)) :
    PS X (.While c body [] pos) (tS X.K E md os os (whM ft b n)) := PS.weak (ps_while hp hc hb) fun σ H Q ⟨g, ρ, F, r, hpp, w⟩ => by
  refine ⟨fun m σ H => ∃ ρ F', R X.K g os ρ σ H F' ∧ WS X.K E md os g F' Q (whM ft b m ρ), ⟨n, ρ, F, r, w⟩, ?_⟩
  rintro m σ H ⟨ρ, F', hR, w⟩
  cases m with
  | zero => exact w.elim
  | succ m =>
    refine ⟨g, ρ, F', hR, ?_⟩
    unfold whM at w
    cases q : ft ρ with
    | ok p =>
      obtain ⟨k, ρ1⟩ := p
      rw [q] at w
      intro k' H1 F1 hR1 le1 ek
      have : k' = k := ek
      subst this
      cases k' with
      | true =>
        rw [if_pos rfl]
        refine ⟨fun σ' H' => ∃ ρ' F2, R X.K g os ρ' σ' H' F2 ∧ WS X.K E md os g F2 Q (whM ft b m ρ'), fun σ' H' z => ⟨m, Nat.lt_succ_self m, z⟩, g, ρ1, F1, hR1, hpp, ?_⟩
        have w2 := WS.mono le1 w
        dsimp only at w2
        cases q2 : b ρ1 with
        | ok p =>
          obtain ⟨fl, ρ2⟩ := p
          rw [q2] at w2
          cases fl with
          | nx => exact fun σ4 H4 F4 hR4 le4 => ⟨ρ2, F4, hR4, WS.mono le4 w2⟩
          | ct => exact fun σ4 H4 F4 hR4 le4 => ⟨ρ2, F4, hR4, WS.mono le4 w2⟩
          | bk => exact w2
          | rt d => exact w2
        | exc x => rw [q2] at w2; exact w2
        | bad => rw [q2] at w2; exact w2.elim
      | false =>
        rw [if_neg Bool.false_ne_true]
        exact w σ H1 F1 hR1 le1
    | exc x => rw [q] at w; exact w
    | bad => rw [q] at w; exact w
/-! ### a dict walked by its keys -/
def gKeys : D → Res (List D)
  | .dic _ kvs => .ok (kvs.map (·.1))
  | _ => .bad
section
variable {K : Frag} {g : Gh} {ρ : Ev} {σ : L2.St} {H F : Hp}
theorem R.lockd (r : R K g os ρ σ H F) {d : Addr} {u : HO} (od : Obj) (h : H d = some u) (hf : F d = some u) (mu : Mut (some u)) : R K { g with lk := (d, od, u) :: g.lk } os ρ σ (upd H d (.frz od u)) F where
  len := r.len
  leno := r.leno
  sub := fun a v e => by
    by_cases ha : a = d
    · subst ha
      rw [hf] at e; cases e
      exact .inr ⟨mu, od, upd_same⟩
    · exact (r.sub a v e).imp (fun z => by rw [upd_ne ha]; exact z) fun ⟨m, ob, z⟩ => ⟨m, ob, by rw [upd_ne ha]; exact z⟩
  fz := r.fz
  ow := fun i e h1 h2 => by
    obtain ⟨a, e1, e2, e3, e4⟩ := r.ow i e h1 h2
    have ne : a ≠ d := fun z => by subst z; rw [hf] at e2; cases e2
    exact ⟨a, e1, e2, e3.heap (upd_ne ne), e4⟩
  dj := r.dj
  frame := fun b o e hp => by
    by_cases hb : b = d
    · subst hb
      rcases r.frame b o e hp with q | ⟨od', q⟩
      · rw [h] at q; cases q
        exact .inr ⟨od, List.mem_cons_self⟩
      · have := (r.lock b od' o q).1
        rw [h] at this; cases this
        exact mu.elim
    · rcases r.frame b o e hp with q | ⟨od', q⟩
      · exact .inl (by rw [upd_ne hb]; exact q)
      · exact .inr ⟨od', List.mem_cons_of_mem _ q⟩
  f0 := r.f0
  fresh := r.fresh
  fr := fun b ob v hF hH => by
    by_cases hb : b = d
    · subst hb
      rw [upd_same] at hH; cases hH
      exact .inl List.mem_cons_self
    · rw [upd_ne hb] at hH
      exact (r.fr b ob v hF hH).imp (List.mem_cons_of_mem _) id
  pin := r.pin
  lock := fun b ob v hm => by
    rcases List.mem_cons.mp hm with e | hm
    · cases e
      exact ⟨upd_same, hf⟩
    · obtain ⟨k1, k2⟩ := r.lock b ob v hm
      have ne : b ≠ d := fun z => by
        subst z
        rw [h] at k1; cases k1
        exact mu.elim
      exact ⟨by rw [upd_ne ne]; exact k1, k2⟩
  kt := fun i b hm hs => by
    obtain ⟨xs, e⟩ := r.kt i b hm hs
    have ne : b ≠ d := fun z => by
      subst z
      rw [h] at e; cases e
      exact mu.elim
    exact ⟨xs, by rw [upd_ne ne]; exact e⟩
theorem R.unlockd {d : Addr} {u : HO} {od : Obj} (r : R K { g with lk := (d, od, u) :: g.lk } os ρ σ H F) (hn : ∀ ob v, (d, ob, v) ∉ g.lk) (hn0 : ∀ ob v, g.H0 d ≠ some (.frz ob v)) : R K g os ρ σ (upd H d u) F := by
  obtain ⟨hd, hf⟩ := r.lock d od u List.mem_cons_self
  refine ⟨r.len, r.leno, fun a v e => ?_, r.fz, fun i e h1 h2 => ?_, r.dj, fun b o e hp => ?_, r.f0, r.fresh, fun b ob v q1 q2 => ?_, r.pin, fun b ob v hm => ?_, fun i b hm hs => ?_⟩
  · by_cases ha : a = d
    · subst ha
      rw [hf] at e; cases e
      exact .inl upd_same
    · exact (r.sub a v e).imp (fun z => by rw [upd_ne ha]; exact z) fun ⟨m, ob, z⟩ => ⟨m, ob, by rw [upd_ne ha]; exact z⟩
  · obtain ⟨a, e1, e2, e3, e4⟩ := r.ow i e h1 h2
    have ne : a ≠ d := fun z => by subst z; rw [hf] at e2; cases e2
    exact ⟨a, e1, e2, e3.heap (upd_ne ne), e4⟩
  · rcases r.frame b o e hp with q | ⟨od', q⟩
    · by_cases hb : b = d
      · subst hb
        rw [hd] at q; cases q
        exact absurd e (hn0 _ _)
      · exact .inl (by rw [upd_ne hb]; exact q)
    · rcases List.mem_cons.mp q with z | z
      · cases z
        exact .inl upd_same
      · exact .inr ⟨od', z⟩
  · by_cases hb : b = d
    · subst hb
      rw [upd_same] at q2; cases q2
      rw [hf] at q1; cases q1
    · rw [upd_ne hb] at q2
      rcases r.fr b ob v q1 q2 with z | z
      · rcases List.mem_cons.mp z with z | z
        · cases z
          exact absurd rfl hb
        · exact .inl z
      · exact .inr z
  · obtain ⟨k1, k2⟩ := r.lock b ob v (List.mem_cons_of_mem _ hm)
    have ne : b ≠ d := fun z => by subst z; exact hn _ _ hm
    exact ⟨by rw [upd_ne ne]; exact k1, k2⟩
  · obtain ⟨xs, e⟩ := r.kt i b hm hs
    have ne : b ≠ d := fun z => by
      subst z
      rw [hd] at e; cases e
    exact ⟨xs, by rw [upd_ne ne]; exact e⟩
theorem R.lock_facts (r : R K g os ρ σ H F) {d : Addr} {u : HO} (h : H d = some u) (hf : F d = some u) (mu : Mut (some u)) : (∀ ob v, (d, ob, v) ∉ g.lk) ∧ ∀ ob v, g.H0 d ≠ some (.frz ob v) := by
  refine ⟨fun ob v hm => ?_, fun ob v e => ?_⟩
  · have := (r.lock d ob v hm).1
    rw [h] at this; cases this
    exact mu.elim
  · have np : ∀ j, (j, d) ∉ g.pn := fun j hj => by
      obtain ⟨q1, ⟨d2, q2⟩, q3⟩ := r.pin j d hj
      obtain ⟨a, e1, e2, _⟩ := r.ow j d2 q1 q2
      rw [q3] at e1; cases e1
      rw [hf] at e2; cases e2
    rcases r.frame d _ e np with q | ⟨od', q⟩
    · rw [h] at q; cases q
      exact mu.elim
    · have := (r.lock d od' _ q).1
      rw [h] at this; cases this
      exact mu.elim
end
theorem WS.lockd {g : Gh} {K : Frag} {F : Hp} {d : Addr} {u : HO} {od : Obj} {Dn : Ends} (hn : ∀ ob v, (d, ob, v) ∉ g.lk) (hn0 : ∀ ob v, g.H0 d ≠ some (.frz ob v)) (hx : ∀ x c dd H' F', ExcOk K { g with lk := (d, od, u) :: g.lk } x c dd H' F' → E c dd H' → E c dd H') : ∀ {r : Res (Fl × Ev)}, (∀ x, r ≠ .exc x) → WS K E md os g F Dn r →
    WS K E md os { g with lk := (d, od, u) :: g.lk } F ⟨fun σ' H' => H' d = some (.frz od u) ∧ Dn.nx σ' (upd H' d u), fun v H' => H' d = some (.frz od u) ∧ Dn.rt v (upd H' d u), fun σ' H' => H' d = some (.frz od u) ∧ Dn.bk σ' (upd H' d u), fun σ' H' => H' d = some (.frz od u) ∧ Dn.ct σ' (upd H' d u)⟩ r
  | .ok (.nx, ρ'), _, h => fun σ' H' F' hR le => ⟨(hR.lock d od u List.mem_cons_self).1, h σ' _ F' (hR.unlockd hn hn0) le⟩
  | .ok (.rt e, ρ'), _, h => fun v σ' H' F' osr hR ro => ⟨(hR.lock d od u List.mem_cons_self).1, h v σ' _ F' osr (hR.unlockd hn hn0) (by
      obtain ⟨hd, hf⟩ := hR.lock d od u List.mem_cons_self
      cases q : md.rtm with
      | false => rw [q] at ro; exact ro
      | true =>
        rw [q] at ro
        obtain ⟨a, e1, e2, e3, e4⟩ := ro
        have ne : a ≠ d := fun z => by subst z; rw [hf] at e2; cases e2
        exact ⟨a, e1, e2, e3.heap (upd_ne ne), e4⟩)⟩
  | .ok (.bk, ρ'), _, h => fun σ' H' F' hR le => ⟨(hR.lock d od u List.mem_cons_self).1, h σ' _ F' (hR.unlockd hn hn0) le⟩
  | .ok (.ct, ρ'), _, h => fun σ' H' F' hR le => ⟨(hR.lock d od u List.mem_cons_self).1, h σ' _ F' (hR.unlockd hn hn0) le⟩
  | .exc x, hx, h => absurd rfl (hx x)
  | .bad, _, h => h
end
end DL
namespace DL
open PySem PySem.Spec L2
section
variable {K : Frag} {g : Gh} {os : List Bool} {ρ : Ev} {σ : L2.St} {H F : Hp}
theorem R.frz_stays (r : R K g os ρ σ H F) {a : Addr} {od : Obj} {u : HO} (h : H a = some (.frz od u)) (hf : F a = some u) {os' : List Bool} {ρ' : Ev} {σ' : L2.St} {H' F' : Hp} (r' : R K g os' ρ' σ' H' F') (le : FLe F F') : H' a = some (.frz od u) := by
  rcases r.fr a od u hf h with z | z
  · exact (r'.lock a od u z).1
  · have np : ∀ j, (j, a) ∉ g.pn := fun j hj => by
      obtain ⟨q1, ⟨d2, q2⟩, q3⟩ := r.pin j a hj
      obtain ⟨a', e1, e2, _⟩ := r.ow j d2 q1 q2
      rw [q3] at e1; cases e1
      rw [hf] at e2; cases e2
    rcases r'.frame a _ z np with q | ⟨od', q⟩
    · exact q
    · obtain ⟨k1, k2⟩ := r'.lock a od' _ q
      have := le a u hf
      rw [k2] at this
      have e : HO.frz od u = u := Option.some.inj this
      exact absurd (congrArg sizeOf e) (by simp)
theorem RepK.key : ∀ {kvs : List (D × D)} {l : List (Key × V)} {i : Nat} {d : D} {k : Key} {v : V}, RepK K F kvs l → (kvs.map (·.1))[i]? = some d → l[i]? = some (k, v) → d = kD k
  | [], l, i, d, k, v, h, e, e2 => by simp at e
  | (k0, d0) :: r, l, 0, d, k, v, h, e, e2 => by
    obtain ⟨k', v', r', e1, e3, _⟩ := h
    subst e1
    have a : k0 = d := by simpa using e
    have b : k' = k ∧ v' = v := by simpa using e2
    rw [← a, e3, b.1]
  | (k0, d0) :: r, l, i + 1, d, k, v, h, e, e2 => by
    obtain ⟨k', v', r', e1, e3, _, h4⟩ := h
    subst e1
    exact RepK.key (i := i) h4 (by simpa using e) (by simpa using e2)
theorem RepT.key : ∀ {kvs : List (D × D)} {l : List (List Key × V)} {i : Nat} {d : D} {k : List Key} {v : V}, RepT K F kvs l → (kvs.map (·.1))[i]? = some d → l[i]? = some (k, v) → d = .tup (k.map kD)
  | [], l, i, d, k, v, h, e, e2 => by simp at e
  | (k0, d0) :: r, l, 0, d, k, v, h, e, e2 => by
    obtain ⟨k', v', r', e1, e3, _⟩ := h
    subst e1
    have a : k0 = d := by simpa using e
    have b : k' = k ∧ v' = v := by simpa using e2
    rw [← a, e3, b.1]
  | (k0, d0) :: r, l, i + 1, d, k, v, h, e, e2 => by
    obtain ⟨k', v', r', e1, e3, _, h4⟩ := h
    subst e1
    exact RepT.key (i := i) h4 (by simpa using e) (by simpa using e2)
theorem RepK.length : ∀ {kvs : List (D × D)} {l : List (Key × V)}, RepK K F kvs l → l.length = kvs.length
  | [], l, h => by rw [show l = [] from h]; rfl
  | (k, d) :: r, l, h => by
    obtain ⟨k', v', r', e1, _, _, h4⟩ := h
    subst e1
    rw [List.length_cons, List.length_cons, RepK.length h4]
theorem RepT.length : ∀ {kvs : List (D × D)} {l : List (List Key × V)}, RepT K F kvs l → l.length = kvs.length
  | [], l, h => by rw [show l = [] from h]; rfl
  | (k, d) :: r, l, h => by
    obtain ⟨k', v', r', e1, _, _, h4⟩ := h
    subst e1
    rw [List.length_cons, List.length_cons, RepT.length h4]
theorem rep_kD (k : Key) : Rep K F (kD k) (kV k) := by cases k <;> rfl
theorem reps_kD : ∀ k : List Key, Reps K F (k.map kD) (k.map kV)
  | [] => rfl
  | k :: r => ⟨_, _, rfl, rep_kD k, reps_kD r⟩
/-- a tuple that stands in the heap is data -/
theorem R.tup (r : R K g os ρ σ H F) {q : Addr} {xs : List V} (h : H q = some (.tup xs)) : ∃ F2, R K g os ρ σ H F2 ∧ FLe F F2 ∧ F2 q = some (.tup xs) ∧ Kp H F H F2 := by
  cases e : F q with
  | some u =>
    rcases r.sub q u e with z | ⟨m, ob, z⟩
    · rw [h] at z
      exact ⟨F, r, FLe.refl, by rw [e, ← z], Kp.refl⟩
    · rw [h] at z; cases z
  | none =>
    refine ⟨upd F q (.tup xs), r.frozen h e ?_ (fun _ _ z => nomatch z) (fun i d h1 h2 h3 => ?_), FLe.upd e, upd_same, fun _ _ z => z, fun b u z => ?_⟩
    · cases e0 : g.H0 q with
      | none => exact .inl rfl
      | some o =>
        have np : ∀ j, (j, q) ∉ g.pn := fun j hj => by
          obtain ⟨q1, ⟨d2, q2⟩, q3⟩ := r.pin j q hj
          obtain ⟨a', e1, _, e3, _⟩ := r.ow j d2 q1 q2
          rw [q3] at e1; cases e1
          obtain ⟨o', e4, mo⟩ := e3.there
          rw [h] at e4; cases e4
          exact mo.elim
        rcases r.frame q o e0 np with z | ⟨od, z⟩
        · rw [h] at z; cases z
          exact .inr ⟨xs, rfl, rfl⟩
        · have := (r.lock q od o z).1
          rw [h] at this; cases this
    · obtain ⟨a', e1, _, e3, _⟩ := r.ow i d h1 h2
      rw [h3] at e1; cases e1
      obtain ⟨o', e4, mo⟩ := e3.there
      rw [h] at e4; cases e4
      exact mo.elim
    · by_cases hb : b = q
      · subst hb
        rw [upd_same] at z; cases z
        exact .inr (.inr ⟨xs, rfl, h⟩)
      · rw [upd_ne hb] at z; exact .inl z
theorem ItD.keys {a : Addr} {od : Obj} {kvs : List (D × D)} {l : List (Key × V)} (hs : ∀ os' ρ' σ' H' F', R K g os' ρ' σ' H' F' → FLe F F' → H' a = some (.frz od (.dK l))) (h : RepK K F kvs l) : ItD K g F (kvs.map (·.1)) (Itk a od l) := by
  intro os ρ σ H F' i hR le
  have ha := hs os ρ σ H F' hR le
  refine ⟨fun d hd => ?_, fun hl => ⟨ha, by rw [h.length, ← hl, List.length_map]; exact Nat.le_refl _⟩⟩
  have hi : i < l.length := by
    rw [h.length]
    have := (List.getElem?_eq_some_iff.mp hd).1
    rwa [List.length_map] at this
  refine ⟨⟨ha, hi⟩, fun x H' ⟨e, k, v, hk, hx⟩ => ?_⟩
  subst e
  rw [h.key hd hk, hx]
  exact ⟨F', hR, FLe.refl, rep_kD k, Kp.refl⟩
theorem ItD.keysT {a : Addr} {od : Obj} {kvs : List (D × D)} {l : List (List Key × V)} (hs : ∀ os' ρ' σ' H' F', R K g os' ρ' σ' H' F' → FLe F F' → H' a = some (.frz od (.dT l))) (h : RepT K F kvs l) : ItD K g F (kvs.map (·.1)) (Itkt a od l) := by
  intro os ρ σ H F' i hR le
  have ha := hs os ρ σ H F' hR le
  refine ⟨fun d hd => ?_, fun hl => ⟨ha, by rw [h.length, ← hl, List.length_map]; exact Nat.le_refl _⟩⟩
  have hi : i < l.length := by
    rw [h.length]
    have := (List.getElem?_eq_some_iff.mp hd).1
    rwa [List.length_map] at this
  refine ⟨⟨ha, hi⟩, fun x H' ⟨e, k, v, q, hk, hx, hq⟩ => ?_⟩
  subst e
  rw [h.key hd hk, hx]
  obtain ⟨F2, hR2, le2, h2, kp⟩ := hR.tup hq
  exact ⟨F2, hR2, le2, ⟨q, _, rfl, .inl h2, reps_kD k⟩, kp⟩
end
def noX (f : SM) : SM := fun ρ => match f ρ with
  | .exc _ => .bad
  | r => r
section
variable {X : Cx} {E : XK} {md : Md} {os os1 : List Bool} {tg : Expr} {body : List Stmt} {pos npos : Pos} {t : Tgt} {b : SM} {x : Str}
/-- for k in d, d a name -/
theorem ds_forK {i : Nat} (hp : PassesOwn (model X.prog X.w) X.A X.env X.xe) (hc : X.calm = true) (hv : PE X (.Name x npos) (tVar i)) (ho : os[i]? = some false) (hg : PG X tg (tT X.K md os os1 t)) (hb : PSs X body (tS X.K E { md with ol := os } os1 os b))
    (hs : ∀ x', foldedSetIterable (.Name x npos) X.env x' = pure x' := by intro _; rfl) : PS X (.For tg (.Name x npos) body [] pos) (tS X.K E md os os (noX (sFor (e1 gKeys (eVar i)) t b))) :=
  PS.weak (PS.or (ps_lock (ps_for hp hc (pi_keys hv) hg hb hs)) (ps_for hp hc (pi_keys hv) hg hb hs)) fun σ H Q ⟨g, ρ, F, r, hpp, w⟩ => by
    unfold noX sFor e1 eBind at w
    cases q : eVar i ρ with
    | ok p =>
      obtain ⟨d, ρ'⟩ := p
      obtain ⟨h1, rfl⟩ := eVar_ok q
      rw [q] at w
      cases d with
      | dic tt kvs =>
        obtain ⟨v, e1, e2⟩ := r.fz i _ ho h1
        obtain ⟨a, ea, e2⟩ := e2
        subst ea
        have hne : ∀ x, forM t b (kvs.map (·.1)) ρ' ≠ .exc x := fun x z => by
          have w2 : WS X.K E md os g F Q (match forM t b (kvs.map (·.1)) ρ' with
            | .exc _ => .bad
            | r => r) := w
          rw [z] at w2
          exact w2
        have w3 : WS X.K E md os g F Q (forM t b (kvs.map (·.1)) ρ') := by
          have w2 : WS X.K E md os g F Q (match forM t b (kvs.map (·.1)) ρ' with
            | .exc _ => .bad
            | r => r) := w
          cases z : forM t b (kvs.map (·.1)) ρ' with
          | ok p => rw [z] at w2; exact w2
          | exc x => exact absurd z (hne x)
          | bad => rw [z] at w2; exact w2
        rcases e2 with ⟨_, l, hf, hk⟩ | ⟨_, l, hf, hk⟩
        · rcases r.sub a _ hf with hh | ⟨mu, od, hh⟩
          · left
            obtain ⟨n1, n2⟩ := r.lock_facts hh hf trivial
            refine ⟨a, _, hh, trivial, fun od => ?_⟩
            have r2 := r.lockd od hh hf trivial
            exact ⟨.ref a, e1, a, od, rfl, .inl ⟨l, upd_same, for_turns (g := { g with lk := (a, od, .dK l) :: g.lk }) hpp (ItD.keys (fun os' ρ' σ' H' F' r' le => (r'.lock a od _ List.mem_cons_self).1) hk) (fun _ _ _ _ h => h) (fun _ _ _ h => h) r2 (WS.lockd n1 n2 (fun _ _ _ _ _ _ h => h) hne w3)⟩⟩
          · right
            exact ⟨.ref a, e1, a, od, rfl, .inl ⟨l, hh, for_turns hpp (ItD.keys (fun os' ρ' σ' H' F' r' le => r.frz_stays hh hf r' le) hk) (fun _ _ _ _ h => h) (fun _ _ _ h => h) r w3⟩⟩
        · rcases r.sub a _ hf with hh | ⟨mu, od, hh⟩
          · left
            obtain ⟨n1, n2⟩ := r.lock_facts hh hf trivial
            refine ⟨a, _, hh, trivial, fun od => ?_⟩
            have r2 := r.lockd od hh hf trivial
            exact ⟨.ref a, e1, a, od, rfl, .inr ⟨l, upd_same, for_turns (g := { g with lk := (a, od, .dT l) :: g.lk }) hpp (ItD.keysT (fun os' ρ' σ' H' F' r' le => (r'.lock a od _ List.mem_cons_self).1) hk) (fun _ _ _ _ h => h) (fun _ _ _ h => h) r2 (WS.lockd n1 n2 (fun _ _ _ _ _ _ h => h) hne w3)⟩⟩
          · right
            exact ⟨.ref a, e1, a, od, rfl, .inr ⟨l, hh, for_turns hpp (ItD.keysT (fun os' ρ' σ' H' F' r' le => r.frz_stays hh hf r' le) hk) (fun _ _ _ _ h => h) (fun _ _ _ h => h) r w3⟩⟩
      | _ => exact w.elim
    | exc x =>
      unfold eVar at q
      split at q <;> cases q
    | bad => rw [q] at w; exact w.elim
end
end DL
/-! DL5: a def's promise, calls. -/
namespace DL
open PySem PySem.Spec L2
set_option autoImplicit false
/-! ### promises -/
def pinsFrom : Nat → List Bool → List V → List (Nat × Addr)
  | i, true :: as, .ref a :: vs => (i, a) :: pinsFrom (i + 1) as vs
  | i, _ :: as, _ :: vs => pinsFrom (i + 1) as vs
  | _, _, _ => []
def ownIdx : Nat → List Bool → List Nat
  | i, true :: as => i :: ownIdx (i + 1) as
  | i, false :: as => ownIdx (i + 1) as
  | _, [] => []
structure AOk (K : Frag) (F H : Hp) (as : List Bool) (ds : List D) (vs : List V) : Prop where
  l1 : ds.length = as.length
  l2 : vs.length = as.length
  sub : ∀ a u, F a = some u → Rd' H a u
  fz : ∀ (i : Nat) (d : D), as[i]? = some false → ds[i]? = some d → ∃ v, vs[i]? = some v ∧ Rep K F d v
  ow : ∀ (i : Nat) (d : D), as[i]? = some true → ds[i]? = some d → ∃ a, vs[i]? = some (.ref a) ∧ F a = none ∧ OwnD K F H a d
  dj : ∀ (i j : Nat) (a : Addr), i ≠ j → as[i]? = some true → as[j]? = some true → vs[i]? = some (.ref a) → vs[j]? = some (.ref a) → False
structure POk (K : Frag) (as : List Bool) (rtm : Bool) (F H : Hp) (vs : List V) (d : D) (ds' : List D) (F' H' : Hp) (v : V) : Prop where
  sub : ∀ a u, F' a = some u → Rd' H' a u
  le : FLe F F'
  fresh : ∀ b u, F' b = some u → F b = some u ∨ H b = none ∨ ∃ xs, u = .tup xs ∧ H b = some (.tup xs)
  fr : ∀ b od u, F' b = some u → H' b = some (.frz od u) → H b = some (.frz od u)
  frame : ∀ b o, H b = some o → (∀ j : Nat, as[j]? = some true → vs[j]? ≠ some (.ref b)) → H' b = some o
  ow : ∀ (i : Nat) (a : Addr), as[i]? = some true → vs[i]? = some (.ref a) → ∃ d, ds'[i]? = some d ∧ OwnD K F' H' a d
  ret : match rtm with
    | false => Rep K F' d v
    | true => ∃ a, v = .ref a ∧ F' a = none ∧ OwnD K F' H' a d ∧ H a = none
/-- the promise of a def that computes m: as tells the lent arguments, rtm a new object handed back -/
def spD (K : Frag) (as : List Bool) (rtm : Bool) (m : List D → Res (D × List D)) : Sp := fun vs H Q E =>
  ∃ F ds, AOk K F H as ds vs ∧ match m ds with
    | .ok (d, ds') => ∀ v F' H', POk K as rtm F H vs d ds' F' H' v → Q v H'
    | .exc x => ∀ c dd H' F', ExcOk K ⟨H, F, pinsFrom 0 as vs, [], []⟩ x c dd H' F' → E c dd H'
    | .bad => False
def initEv (n : Nat) (ds : List D) : Ev := ds.map some ++ List.replicate (n - ds.length) none
def fin (np : Nat) (ρ : Ev) : List D := (ρ.take np).map fun o => o.getD .non
def fnM (n np : Nat) (rtm : Bool) (body : SM) : List D → Res (D × List D) := fun ds => match body (initEv n ds) with
  | .ok (.nx, ρ) => if rtm = true then .bad else .ok (.non, fin np ρ)
  | .ok (.rt d, ρ) => .ok (d, fin np ρ)
  | .ok _ => .bad
  | .exc x => .exc x
  | .bad => .bad
theorem mem_pinsFrom : ∀ {as : List Bool} {vs : List V} {i j : Nat} {a : Addr}, (j, a) ∈ pinsFrom i as vs ↔ ∃ k, j = i + k ∧ as[k]? = some true ∧ vs[k]? = some (.ref a)
  | [], vs, i, j, a => by
    constructor
    · intro h
      cases vs <;> cases h
    · rintro ⟨k, _, h, _⟩
      simp at h
  | b :: as, [], i, j, a => by
    constructor
    · intro h
      cases b <;> cases h
    · rintro ⟨k, _, _, h⟩
      simp at h
  | b :: as, v :: vs, i, j, a => by
    have ih := @mem_pinsFrom as vs (i + 1) j a
    have step : (j, a) ∈ pinsFrom i (b :: as) (v :: vs) ↔ (b = true ∧ v = .ref a ∧ j = i) ∨ (j, a) ∈ pinsFrom (i + 1) as vs := by
      cases b with
      | false =>
        show (j, a) ∈ pinsFrom (i + 1) as vs ↔ _
        simp
      | true =>
        cases v with
        | ref c =>
          show (j, a) ∈ (i, c) :: pinsFrom (i + 1) as vs ↔ _
          rw [List.mem_cons]
          constructor
          · rintro (h | h)
            · cases h; exact .inl ⟨rfl, rfl, rfl⟩
            · exact .inr h
          · rintro (⟨_, h, h2⟩ | h)
            · cases h; subst h2; exact .inl rfl
            · exact .inr h
        | _ =>
          show (j, a) ∈ pinsFrom (i + 1) as vs ↔ _
          simp
    rw [step, ih]
    constructor
    · rintro (⟨h1, h2, h3⟩ | ⟨k, h1, h2, h3⟩)
      · exact ⟨0, by omega, by rw [h1]; rfl, by rw [h2]; rfl⟩
      · exact ⟨k + 1, by omega, by simpa using h2, by simpa using h3⟩
    · rintro ⟨k, h1, h2, h3⟩
      cases k with
      | zero => exact .inl ⟨by simpa using h2, by simpa using h3, by omega⟩
      | succ k => exact .inr ⟨k, by omega, by simpa using h2, by simpa using h3⟩
theorem pins_idx : ∀ {as : List Bool} {vs : List V} {i : Nat}, vs.length = as.length → (∀ k : Nat, as[k]? = some true → ∃ a, vs[k]? = some (.ref a)) → (pinsFrom i as vs).map (·.1) = ownIdx i as
  | [], [], i, _, _ => rfl
  | [], v :: vs, i, h, _ => by cases h
  | b :: as, [], i, h, _ => by cases h
  | b :: as, v :: vs, i, hl, h => by
    have ih := @pins_idx as vs (i + 1) (by simpa using hl) fun k hk => by
      obtain ⟨a, ha⟩ := h (k + 1) (by simpa using hk)
      exact ⟨a, by simpa using ha⟩
    cases b with
    | false => exact ih
    | true =>
      obtain ⟨a, ha⟩ := h 0 rfl
      have : v = .ref a := by simpa using ha
      subst this
      show i :: (pinsFrom (i + 1) as vs).map (·.1) = i :: ownIdx (i + 1) as
      rw [ih]
/-! ### a def keeps its promise -/
section
variable {P : Program} {w : World} {K : Frag} {mg : Str → Option Value} {base : Heap} {x qual : Str} {params : Arguments} {body : List Stmt} {scope : Scope} {dvs : List V} {kws : List (Str × V)} {f : Addr} {fd : FuncData}
theorem get_init {n i : Nat} {ds : List D} : (initEv n ds)[i]? = if i < ds.length then (ds[i]?).map some else if i < n then some none else none := by
  unfold initEv
  by_cases h : i < ds.length
  · rw [if_pos h, List.getElem?_append_left (by rw [List.length_map]; exact h), List.getElem?_map]
  · rw [if_neg h, List.getElem?_append_right (by rw [List.length_map]; omega), List.getElem?_replicate, List.length_map]
    by_cases h2 : i < n
    · rw [if_pos h2, if_pos (by omega)]
    · rw [if_neg h2, if_neg (by omega)]
theorem get_start {N : List Str} {vs : List V} {i : Nat} (h : i < vs.length) : (L2.start N vs)[i]? = (vs[i]?).map some := by
  unfold L2.start
  rw [List.getElem?_append_left (by rw [List.length_map]; exact h), List.getElem?_map]
theorem init_ev_some {n i : Nat} {ds : List D} {d : D} (h : (initEv n ds)[i]? = some (some d)) : ds[i]? = some d := by
  rw [get_init] at h
  split at h
  · cases e : ds[i]? with
    | none => rw [e] at h; cases h
    | some z => rw [e] at h; cases h; rfl
  · split at h <;> cases h
/-- what a def's body begins with -/
theorem R.start {kt : List Nat} {H F : Hp} {as : List Bool} {ds : List D} {vs : List V} {N : List Str} (h : AOk K F H as ds vs) (hN : as.length ≤ N.length) (hkt : ∀ i ∈ kt, as.length ≤ i) :
    R K ⟨H, F, pinsFrom 0 as vs, [], kt⟩ (as ++ List.replicate (N.length - as.length) false) (initEv N.length ds) (L2.start N vs) H F := by
  have l1 := h.l1
  have l2 := h.l2
  have tag : ∀ {i : Nat} {b : Bool} {d : D}, (as ++ List.replicate (N.length - as.length) false)[i]? = some b → (initEv N.length ds)[i]? = some (some d) → as[i]? = some b ∧ ds[i]? = some d ∧ i < vs.length := fun {i b d} h1 h2 => by
    have hd := init_ev_some h2
    have hi : i < as.length := by rw [← l1]; exact (List.getElem?_eq_some_iff.mp hd).1
    rw [List.getElem?_append_left hi] at h1
    exact ⟨h1, hd, by omega⟩
  refine ⟨?_, ?_, h.sub, fun i d h1 h2 => ?_, fun i d h1 h2 => ?_, fun i j d e a hne h1 h2 h3 h4 h5 h6 => ?_, fun b o e _ => .inl e, FLe.refl, fun b u e => .inl e, fun b od u h1 h2 => .inr h2, fun i a hm => ?_, (fun d od u hm => nomatch hm), fun i b hm hs => ?_⟩
  · unfold L2.start initEv
    simp only [List.length_append, List.length_map, List.length_replicate]
    omega
  · unfold initEv
    simp only [List.length_append, List.length_map, List.length_replicate]
    omega
  · obtain ⟨k1, k2, k3⟩ := tag h1 h2
    obtain ⟨v, hv, r⟩ := h.fz i d k1 k2
    exact ⟨v, by rw [get_start k3, hv]; rfl, r⟩
  · obtain ⟨k1, k2, k3⟩ := tag h1 h2
    obtain ⟨a, hv, r1, r2⟩ := h.ow i d k1 k2
    exact ⟨a, by rw [get_start k3, hv]; rfl, r1, r2, .inl ⟨i, mem_pinsFrom.mpr ⟨i, by omega, k1, hv⟩⟩⟩
  · obtain ⟨k1, k2, k3⟩ := tag h1 h3
    obtain ⟨k4, k5, k6⟩ := tag h2 h4
    rw [get_start k3] at h5
    rw [get_start k6] at h6
    obtain ⟨v, e1, e2⟩ := Option.map_eq_some_iff.mp h5
    obtain ⟨v', e3, e4⟩ := Option.map_eq_some_iff.mp h6
    cases e2
    cases e4
    exact h.dj i j a hne k1 k4 e1 e3
  · obtain ⟨k, e, k1, k2⟩ := mem_pinsFrom.mp hm
    have e' : i = k := by omega
    subst e'
    have hi : i < as.length := (List.getElem?_eq_some_iff.mp k1).1
    refine ⟨by rw [List.getElem?_append_left hi]; exact k1, ⟨ds[i]'(by omega), ?_⟩, ?_⟩
    · rw [get_init, if_pos (by omega), List.getElem?_eq_getElem (by omega)]; rfl
    · rw [get_start (by omega), k2]; rfl
  · have hi := hkt i hm
    unfold L2.start at hs
    rw [List.getElem?_append_right (by rw [List.length_map]; omega), List.getElem?_replicate] at hs
    split at hs <;> cases hs
theorem fin_get {np i : Nat} {ρ : Ev} {d : D} (hi : i < np) (h : ρ[i]? = some (some d)) : (fin np ρ)[i]? = some d := by
  unfold fin
  rw [List.getElem?_map, List.getElem?_take_of_lt hi, h]
  rfl
/-- the end of a def's body -/
theorem POk.of {kt : List Nat} {H F : Hp} {as : List Bool} {rtm : Bool} {vs : List V} {os : List Bool} {ρ : Ev} {σ : L2.St} {H' F' : Hp} {d : D} {v : V} (r : R K ⟨H, F, pinsFrom 0 as vs, [], kt⟩ os ρ σ H' F') (ro : RetOk K rtm ⟨H, F, pinsFrom 0 as vs, [], kt⟩ H' F' d v) : POk K as rtm F H vs d (fin as.length ρ) F' H' v where
  sub := r.sub
  le := r.f0
  fresh := r.fresh
  fr := fun b od u h1 h2 => (r.fr b od u h1 h2).elim (fun z => nomatch z) id
  frame := fun b o e hp => (r.frame b o e fun j hj => by
    obtain ⟨k, _, k1, k2⟩ := mem_pinsFrom.mp hj
    exact hp k k1 k2).elim id fun ⟨_, z⟩ => nomatch z
  ow := fun i a h1 h2 => by
    obtain ⟨k1, ⟨e, k2⟩, k3⟩ := r.pin i a (mem_pinsFrom.mpr ⟨i, by omega, h1, h2⟩)
    obtain ⟨a', q1, q2, q3, _⟩ := r.ow i e k1 k2
    rw [k3] at q1; cases q1
    exact ⟨e, fin_get (List.getElem?_eq_some_iff.mp h1).1 k2, q3⟩
  ret := by cases rtm <;> exact ro
/-- THE RULE: a def that lets nothing out -/
theorem fn_D {N ps : List Str} {k : Nat} {as : List Bool} {rtm : Bool} {b : SM} {os' : List Bool} {kt : List Nat} (F0 : FunD K x qual params body scope dvs kws f fd) (S : FnScope N ps scope) (hps : as.length = ps.length) (hN : as.length ≤ N.length) (hkt : ∀ i ∈ kt, as.length ≤ i)
    (hbody : ∀ (cdv : Value) (A : Around) (outer : List Env) (s : Shared) (H : Hp) (E : XK), Room k (A.deeper (PyProof.Rows.envOfC qual scope s.heap.objs.size f cdv)) →
      PSs (cxOf CX0 P w K mg base N qual scope f cdv A outer s H E).nox body (tS K E ⟨rtm, [], ownIdx 0 as, kt⟩ (as ++ List.replicate (N.length - as.length) false) os' b)) :
    FnOk P w K mg base CX0 (k + 1) f fd ps (spD K as rtm (fnM N.length as.length rtm b)) := by
  refine F0.ok S (fun vs H Q E h => ?_) fun cdv A outer s H vs Q E hr h => ⟨_, PSs.nox (hbody cdv A outer s H E hr), ?_⟩
  · obtain ⟨F, ds, ha, _⟩ := h
    rw [ha.l2, hps]
  · obtain ⟨F, ds, ha, hq⟩ := h
    refine ⟨⟨H, F, pinsFrom 0 as vs, [], kt⟩, initEv N.length ds, F, R.start ha hN hkt, ⟨?_, rfl⟩, ?_⟩
    · refine pins_idx ha.l2 fun k hk => ?_
      have hi : k < ds.length := by rw [ha.l1]; exact (List.getElem?_eq_some_iff.mp hk).1
      obtain ⟨a, h1, _⟩ := ha.ow k _ hk (List.getElem?_eq_getElem hi)
      exact ⟨a, h1⟩
    · unfold fnM at hq
      cases q : b (initEv N.length ds) with
      | ok p =>
        obtain ⟨fl, ρ⟩ := p
        rw [q] at hq
        cases fl with
        | nx =>
          intro σ' H' F' hR le
          cases rtm with
          | true => exact hq.elim
          | false => exact hq .non F' H' (POk.of hR rfl)
        | rt d => exact fun v σ' H' F' osr hR ro => hq v F' H' (POk.of hR ro)
        | bk => exact hq.elim
        | ct => exact hq.elim
      | exc x =>
        rw [q] at hq
        intro c dd H' F' he
        exact hq c dd H' F' ⟨he.cls, he.fld, he.sub, he.frame, he.f0, he.fresh⟩
      | bad => rw [q] at hq; exact hq.elim
end
end DL
namespace DL
open PySem PySem.Spec L2
/-! ### calls -/
def ArgR (K : Frag) (σ : L2.St) (F : Hp) : List (Option Nat) → List D → List V → Prop
  | [], ds, vs => ds = [] ∧ vs = []
  | none :: ks, ds, vs => ∃ d r v s, ds = d :: r ∧ vs = v :: s ∧ Rep K F d v ∧ ArgR K σ F ks r s
  | some i :: ks, ds, vs => ∃ r v s, ds = D.non :: r ∧ vs = v :: s ∧ σ[i]? = some (some v) ∧ ArgR K σ F ks r s
def rC (K : Frag) (ks : List (Option Nat)) : Gh → Ev → L2.St → Hp → Hp → List D → List V → Prop := fun _ _ σ _ F ds vs => ArgR K σ F ks ds vs
abbrev sC (K : Frag) (E : XK) (os : List Bool) (ks : List (Option Nat)) (f : EM (List D)) : TA := tG K E os (rC K ks) f
def eConsO (i : Nat) (f : EM (List D)) : EM (List D) := eBind (eVar i) fun _ => eBind f fun ds => eRet (D.non :: ds)
def fill : List (Option Nat) → List D → Ev → Option (List D)
  | [], [], _ => some []
  | none :: ks, d :: ds, ρ => match fill ks ds ρ with
    | some r => some (d :: r)
    | none => none
  | some i :: ks, _ :: ds, ρ => match ρ[i]? with
    | some (some d) => (match fill ks ds ρ with
      | some r => some (d :: r)
      | none => none)
    | _ => none
  | _, _, _ => none
def back : List (Option Nat) → List D → Ev → Ev
  | none :: ks, _ :: ds, ρ => back ks ds ρ
  | some i :: ks, d :: ds, ρ => back ks ds (ρ.set i (some d))
  | _, _, ρ => ρ
def callM (ks : List (Option Nat)) (m : List D → Res (D × List D)) (ds : List D) : EM D := fun ρ => match fill ks ds ρ with
  | none => .bad
  | some ds1 => match m ds1 with
    | .ok (d, ds') => .ok (d, back ks ds' ρ)
    | .exc x => .exc x
    | .bad => .bad
def eCall (ks : List (Option Nat)) (m : List D → Res (D × List D)) (f : EM (List D)) : EM D := eBind f fun ds => callM ks m ds
theorem back_len : ∀ {ks : List (Option Nat)} {ds : List D} {ρ : Ev}, (back ks ds ρ).length = ρ.length
  | [], ds, ρ => by cases ds <;> rfl
  | none :: ks, [], ρ => rfl
  | none :: ks, d :: ds, ρ => back_len (ks := ks) (ds := ds)
  | some i :: ks, [], ρ => rfl
  | some i :: ks, d :: ds, ρ => by
    show (back ks ds (ρ.set i (some d))).length = _
    rw [back_len, List.length_set]
theorem back_out : ∀ {ks : List (Option Nat)} {ds : List D} {ρ : Ev} {i : Nat}, some i ∉ ks → (back ks ds ρ)[i]? = ρ[i]?
  | [], ds, ρ, i, _ => by cases ds <;> rfl
  | none :: ks, [], ρ, i, _ => rfl
  | none :: ks, d :: ds, ρ, i, h => back_out (ks := ks) (ds := ds) (fun z => h (List.mem_cons_of_mem _ z))
  | some j :: ks, [], ρ, i, _ => rfl
  | some j :: ks, d :: ds, ρ, i, h => by
    show (back ks ds (ρ.set j (some d)))[i]? = _
    rw [back_out (fun z => h (List.mem_cons_of_mem _ z)), List.getElem?_set_ne (fun z => h (by rw [z]; exact List.mem_cons_self))]
theorem back_in : ∀ {ks : List (Option Nat)} {ds : List D} {ρ : Ev} {i j : Nat} {d : D}, (ks.filterMap id).Nodup → ks[j]? = some (some i) → ds[j]? = some d → i < ρ.length → (back ks ds ρ)[i]? = some (some d)
  | [], ds, ρ, i, j, d, _, h, _, _ => by simp at h
  | none :: ks, [], ρ, i, j, d, _, _, h, _ => by simp at h
  | none :: ks, d0 :: ds, ρ, i, 0, d, _, h, _, _ => by simp at h
  | none :: ks, d0 :: ds, ρ, i, j + 1, d, hn, h, h2, h3 => back_in (ks := ks) (ds := ds) (j := j) (by simpa using hn) (by simpa using h) (by simpa using h2) h3
  | some k :: ks, [], ρ, i, j, d, _, _, h, _ => by simp at h
  | some k :: ks, d0 :: ds, ρ, i, 0, d, hn, h, h2, h3 => by
    have e1 : k = i := by simpa using h
    have e2 : d0 = d := by simpa using h2
    subst e1 e2
    show (back ks ds (ρ.set k (some d0)))[k]? = _
    have : some k ∉ ks := fun z => by
      have hn' : (k :: ks.filterMap id).Nodup := by simpa using hn
      exact (List.nodup_cons.mp hn').1 (List.mem_filterMap.mpr ⟨some k, z, rfl⟩)
    rw [back_out this, List.getElem?_set_self h3]
  | some k :: ks, d0 :: ds, ρ, i, j + 1, d, hn, h, h2, h3 => by
    have hn' : (k :: ks.filterMap id).Nodup := by simpa using hn
    exact back_in (ks := ks) (ds := ds) (j := j) (ρ := ρ.set k (some d0)) (List.nodup_cons.mp hn').2 (by simpa using h) (by simpa using h2) (by rw [List.length_set]; exact h3)
section
variable {K : Frag} {σ : L2.St} {F H : Hp} {ρ : Ev}
theorem ArgR.facts : ∀ {ks : List (Option Nat)} {ds ds1 : List D} {vs : List V}, ArgR K σ F ks ds vs → fill ks ds ρ = some ds1 → ds1.length = ks.length ∧ vs.length = ks.length ∧
    (∀ (i : Nat) (d : D), ks[i]? = some none → ds1[i]? = some d → ∃ v, vs[i]? = some v ∧ Rep K F d v) ∧
    (∀ (i s : Nat), ks[i]? = some (some s) → ∃ d, ρ[s]? = some (some d) ∧ ds1[i]? = some d ∧ ∃ v, vs[i]? = some v ∧ σ[s]? = some (some v))
  | [], ds, ds1, vs, h, hf => by
    obtain ⟨rfl, rfl⟩ := h
    have : ds1 = [] := by simpa [fill] using hf.symm
    subst this
    exact ⟨rfl, rfl, fun i d h => by simp at h, fun i s h => by simp at h⟩
  | none :: ks, ds, ds1, vs, h, hf => by
    obtain ⟨d, r, v, s, rfl, rfl, hv, ha⟩ := h
    unfold fill at hf
    cases q : fill ks r ρ with
    | none => rw [q] at hf; cases hf
    | some r1 =>
      rw [q] at hf
      cases hf
      obtain ⟨l1, l2, h1, h2⟩ := ArgR.facts ha q
      refine ⟨by simp [l1], by simp [l2], fun i e k1 k2 => ?_, fun i t k1 => ?_⟩
      · cases i with
        | zero =>
          have : d = e := by simpa using k2
          subst this
          exact ⟨v, rfl, hv⟩
        | succ i => exact h1 i e (by simpa using k1) (by simpa using k2)
      · cases i with
        | zero => simp at k1
        | succ i =>
          obtain ⟨d', q1, q2, v', q3, q4⟩ := h2 i t (by simpa using k1)
          exact ⟨d', q1, by simpa using q2, v', by simpa using q3, q4⟩
  | some j :: ks, ds, ds1, vs, h, hf => by
    obtain ⟨r, v, s, rfl, rfl, hv, ha⟩ := h
    unfold fill at hf
    split at hf
    · rename_i d hd
      cases q : fill ks r ρ with
      | none => rw [q] at hf; cases hf
      | some r1 =>
        rw [q] at hf
        cases hf
        obtain ⟨l1, l2, h1, h2⟩ := ArgR.facts ha q
        refine ⟨by simp [l1], by simp [l2], fun i e k1 k2 => ?_, fun i t k1 => ?_⟩
        · cases i with
          | zero => simp at k1
          | succ i => exact h1 i e (by simpa using k1) (by simpa using k2)
        · cases i with
          | zero =>
            have : j = t := by simpa using k1
            subst this
            exact ⟨d, hd, rfl, v, rfl, hv⟩
          | succ i =>
            obtain ⟨d', q1, q2, v', q3, q4⟩ := h2 i t (by simpa using k1)
            exact ⟨d', q1, by simpa using q2, v', by simpa using q3, q4⟩
    · cases hf
theorem nodup_slot {ks : List (Option Nat)} (hn : (ks.filterMap id).Nodup) : ∀ {i j s : Nat}, ks[i]? = some (some s) → ks[j]? = some (some s) → i = j := by
  induction ks with
  | nil => intro i j s h; simp at h
  | cons k ks ih =>
    intro i j s h1 h2
    have key : ∀ {t : Nat}, k = some t → some t ∉ ks := fun {t} e z => by
      subst e
      have hn' : (t :: ks.filterMap id).Nodup := by simpa using hn
      exact (List.nodup_cons.mp hn').1 (List.mem_filterMap.mpr ⟨some t, z, rfl⟩)
    have hn2 : (ks.filterMap id).Nodup := by
      cases k with
      | none => simpa using hn
      | some t =>
        have hn' : (t :: ks.filterMap id).Nodup := by simpa using hn
        exact (List.nodup_cons.mp hn').2
    cases i with
    | zero =>
      cases j with
      | zero => rfl
      | succ j =>
        exact absurd (List.mem_of_getElem? (by simpa using h2)) (key (by simpa using h1))
    | succ i =>
      cases j with
      | zero => exact absurd (List.mem_of_getElem? (by simpa using h1)) (key (by simpa using h2))
      | succ j => exact congrArg Nat.succ (ih hn2 (s := s) (by simpa using h1) (by simpa using h2))
variable {g : Gh} {os : List Bool}
theorem isSome_at {ks : List (Option Nat)} {i : Nat} {b : Bool} (h : (ks.map Option.isSome)[i]? = some b) : ∃ k, ks[i]? = some k ∧ k.isSome = b := by
  rw [List.getElem?_map] at h
  obtain ⟨k, h1, h2⟩ := Option.map_eq_some_iff.mp h
  exact ⟨k, h1, h2⟩
theorem R.fresh_tup (r : R K g os ρ σ H F) {b : Addr} {u : HO} {xs : List V} (z1 : u = .tup xs) (z2 : H b = some (.tup xs)) : g.F0 b = some u ∨ g.H0 b = none ∨ ∃ xs, u = .tup xs ∧ g.H0 b = some (.tup xs) := by
  subst z1
  cases e0 : g.H0 b with
  | none => exact .inr (.inl rfl)
  | some o =>
    have np : ∀ j, (j, b) ∉ g.pn := fun j hj => by
      obtain ⟨q1, ⟨d2, q2⟩, q3⟩ := r.pin j b hj
      obtain ⟨a', e1, _, e3, _⟩ := r.ow j d2 q1 q2
      rw [q3] at e1; cases e1
      obtain ⟨o', e4, mo⟩ := e3.there
      rw [z2] at e4; cases e4
      exact mo.elim
    rcases r.frame b o e0 np with z | ⟨od, z⟩
    · rw [z2] at z; cases z
      exact .inr (.inr ⟨xs, rfl, rfl⟩)
    · have := (r.lock b od o z).1
      rw [z2] at this; cases this
theorem R.args (r : R K g os ρ σ H F) {ks : List (Option Nat)} {ds ds1 : List D} {vs : List V} (ha : ArgR K σ F ks ds vs) (hf : fill ks ds ρ = some ds1) (ho : ∀ i, some i ∈ ks → os[i]? = some true) (hn : (ks.filterMap id).Nodup) : AOk K F H (ks.map Option.isSome) ds1 vs := by
  obtain ⟨l1, l2, h1, h2⟩ := ha.facts hf
  refine ⟨by rw [List.length_map]; exact l1, by rw [List.length_map]; exact l2, r.sub, fun i d k1 k2 => ?_, fun i d k1 k2 => ?_, fun i j a hne k1 k2 k3 k4 => ?_⟩
  · obtain ⟨k, q1, q2⟩ := isSome_at k1
    cases k with
    | none => exact h1 i d q1 k2
    | some s => cases q2
  · obtain ⟨k, q1, q2⟩ := isSome_at k1
    cases k with
    | none => cases q2
    | some s =>
      obtain ⟨d', p1, p2, v, p3, p4⟩ := h2 i s q1
      rw [k2] at p2
      cases p2
      obtain ⟨a, e1, e2, e3, _⟩ := r.ow s d (ho s (List.mem_of_getElem? q1)) p1
      rw [p4] at e1
      cases e1
      exact ⟨a, p3, e2, e3⟩
  · obtain ⟨k, q1, q2⟩ := isSome_at k1
    obtain ⟨k', q3, q4⟩ := isSome_at k2
    cases k with
    | none => cases q2
    | some s =>
      cases k' with
      | none => cases q4
      | some t =>
        obtain ⟨d', p1, p2, v, p3, p4⟩ := h2 i s q1
        obtain ⟨d2, p5, p6, v', p7, p8⟩ := h2 j t q3
        rw [k3] at p3
        rw [k4] at p7
        cases p3
        cases p7
        by_cases e : s = t
        · subst e
          exact hne (nodup_slot hn q1 q3)
        · exact r.dj s t d' d2 a e (ho s (List.mem_of_getElem? q1)) (ho t (List.mem_of_getElem? q3)) p1 p5 p4 p8
/-- behind a call -/
theorem R.called (r : R K g os ρ σ H F) {ks : List (Option Nat)} {ds ds1 : List D} {vs : List V} (ha : ArgR K σ F ks ds vs) (hf : fill ks ds ρ = some ds1) (ho : ∀ i, some i ∈ ks → os[i]? = some true) (hn : (ks.filterMap id).Nodup)
    {rtm : Bool} {d : D} {ds' : List D} {F' H' : Hp} {v : V} (k : POk K (ks.map Option.isSome) rtm F H vs d ds' F' H' v) : R K g os (back ks ds' ρ) σ H' F' := by
  obtain ⟨l1, l2, h1, h2⟩ := ha.facts hf
  -- the lent objects
  have lent : ∀ {j : Nat} {b : Addr}, (ks.map Option.isSome)[j]? = some true → vs[j]? = some (.ref b) → ∃ s e, ks[j]? = some (some s) ∧ os[s]? = some true ∧ ρ[s]? = some (some e) ∧ σ[s]? = some (some (.ref b)) := fun {j b} q1 q2 => by
    obtain ⟨k', q3, q4⟩ := isSome_at q1
    cases k' with
    | none => cases q4
    | some s =>
      obtain ⟨e, p1, p2, v', p3, p4⟩ := h2 j s q3
      rw [q2] at p3
      cases p3
      exact ⟨s, e, q3, ho s (List.mem_of_getElem? q3), p1, p4⟩
  have here : ∀ {i : Nat} {e : D}, (back ks ds' ρ)[i]? = some (some e) → some i ∈ ks → ∃ j, ks[j]? = some (some i) ∧ ∃ e0 a, ρ[i]? = some (some e0) ∧ σ[i]? = some (some (.ref a)) ∧ F a = none ∧ OwnD K F H a e0 ∧ ((∃ j, (j, a) ∈ g.pn) ∨ g.H0 a = none) ∧ OwnD K F' H' a e := fun {i e} q1 q2 => by
    obtain ⟨j, hj⟩ := List.getElem?_of_mem q2
    obtain ⟨e0, p1, p2, v', p3, p4⟩ := h2 j i hj
    obtain ⟨a, e1, e2, e3, e4⟩ := r.ow i e0 (ho i q2) p1
    rw [p4] at e1
    cases e1
    obtain ⟨e', k1, k2⟩ := k.ow j a (by rw [List.getElem?_map, hj]; rfl) p3
    rw [back_in hn hj k1 (List.getElem?_eq_some_iff.mp p1).1] at q1
    cases q1
    exact ⟨j, hj, e0, a, p1, p4, e2, e3, e4, k2⟩
  have was : ∀ {i : Nat} {e : D}, (back ks ds' ρ)[i]? = some (some e) → ∃ e0, ρ[i]? = some (some e0) := fun {i e} q => by
    by_cases hm : some i ∈ ks
    · obtain ⟨_, _, e0, _, q1, _⟩ := here q hm
      exact ⟨e0, q1⟩
    · rw [back_out hm] at q; exact ⟨e, q⟩
  have nF : ∀ {b : Addr} {o : HO}, H b = some o → Mut (some o) → F b = none → F' b = none := fun {b o} q m n => by
    cases z : F' b with
    | none => rfl
    | some u =>
      rcases k.fresh b u z with z | z | ⟨xs, _, z⟩
      · rw [n] at z; cases z
      · rw [q] at z; cases z
      · rw [q] at z; cases z; exact m.elim
  refine ⟨by rw [back_len]; exact r.len, by rw [back_len]; exact r.leno, k.sub, fun i e q1 q2 => ?_, fun i e q1 q2 => ?_, fun i j e1 e2 a hne q1 q2 q3 q4 q5 q6 => ?_, fun b o q hp => ?_, r.f0.trans k.le, fun b u q => ?_, fun b od u q1 q2 => ?_, fun i a hm => ?_, fun b od u hm => ?_, fun i b hm hs => ?_⟩
  · have hm : some i ∉ ks := fun z => by rw [ho i z] at q1; cases q1
    rw [back_out hm] at q2
    obtain ⟨v', p1, p2⟩ := r.fz i e q1 q2
    exact ⟨v', p1, Rep.mono k.le _ _ p2⟩
  · by_cases hm : some i ∈ ks
    · obtain ⟨j, hj, e0, a, p1, p2, p3, p4, p5, p6⟩ := here q2 hm
      obtain ⟨o, ho', mo⟩ := p4.there
      exact ⟨a, p2, nF ho' mo p3, p6, p5⟩
    · rw [back_out hm] at q2
      obtain ⟨a, p1, p2, p3, p4⟩ := r.ow i e q1 q2
      obtain ⟨o, ho', mo⟩ := p3.there
      have eH : H' a = H a := by
        rw [ho']
        refine k.frame a o ho' fun j z1 z2 => ?_
        obtain ⟨s, e', y1, y2, y3, y4⟩ := lent z1 z2
        exact r.dj s i e' e a (fun z => by subst z; exact hm (List.mem_of_getElem? y1)) y2 q1 y3 q2 y4 p1
      exact ⟨a, p1, nF ho' mo p2, (p3.heap eH).mono k.le, p4⟩
  · obtain ⟨w1, z1⟩ := was q3
    obtain ⟨w2, z2⟩ := was q4
    exact r.dj i j w1 w2 a hne q1 q2 z1 z2 q5 q6
  · rcases r.frame b o q hp with z | z
    · refine .inl (k.frame b o z fun j z1 z2 => ?_)
      obtain ⟨s, e', y1, y2, y3, y4⟩ := lent z1 z2
      obtain ⟨a, p1, _, _, p4⟩ := r.ow s e' y2 y3
      rw [y4] at p1
      cases p1
      rcases p4 with ⟨j, hj⟩ | hz
      · exact hp j hj
      · rw [q] at hz; cases hz
    · exact .inr z
  · rcases k.fresh b u q with z | z | ⟨xs, z1, z2⟩
    · exact r.fresh b u z
    · exact .inr (.inl (r.h0_none z))
    · exact r.fresh_tup z1 z2
  · have z0 := k.fr b od u q1 q2
    rcases k.fresh b u q1 with z | z | ⟨xs, z1, z2⟩
    · exact r.fr b od u z z0
    · rw [z0] at z; cases z
    · rw [z0] at z2; cases z2
  · obtain ⟨k1, ⟨e, k2⟩, k3⟩ := r.pin i a hm
    refine ⟨k1, ?_, k3⟩
    by_cases hmm : some i ∈ ks
    · obtain ⟨j, hj⟩ := List.getElem?_of_mem hmm
      obtain ⟨e0, p1, p2, v', p3, p4⟩ := h2 j i hj
      rw [k3] at p4
      cases p4
      obtain ⟨e', k4, k5⟩ := k.ow j a (by rw [List.getElem?_map, hj]; rfl) p3
      exact ⟨e', back_in hn hj k4 (List.getElem?_eq_some_iff.mp p1).1⟩
    · exact ⟨e, by rw [back_out hmm]; exact k2⟩
  · obtain ⟨k1, k2⟩ := r.lock b od u hm
    refine ⟨k.frame b _ k1 fun j z1 z2 => ?_, k.le _ _ k2⟩
    obtain ⟨s, e', y1, y2, y3, y4⟩ := lent z1 z2
    obtain ⟨a, p1, p2, _, _⟩ := r.ow s e' y2 y3
    rw [y4] at p1
    cases p1
    rw [k2] at p2; cases p2
  · obtain ⟨xs, e⟩ := r.kt i b hm hs
    refine ⟨xs, k.frame b _ e fun j z1 z2 => ?_⟩
    obtain ⟨s, e', y1, y2, y3, y4⟩ := lent z1 z2
    obtain ⟨a, p1, _, p3, _⟩ := r.ow s e' y2 y3
    rw [y4] at p1
    cases p1
    obtain ⟨o, p4, mo⟩ := p3.there
    rw [e] at p4; cases p4
    exact mo.elim
end
section
variable {X : Cx} {E : XK} {os : List Bool} {e : Expr} {es : List Expr} {pos p : Pos} {fa : EM D} {fr : EM (List D)} {ks : List (Option Nat)} {k : Nat} {f : Addr} {fd : FuncData} {ps : List Str} {as : List Bool} {m : List D → Res (D × List D)} {x : Str}
theorem dc_nil : PA X [] (sC X.K E os [] eNil) := PA.weak pa_nil fun σ H Q ⟨g, ρ, F, r, w⟩ => w [] H F r FLe.refl ⟨rfl, rfl⟩
theorem ArgR.mono {K : Frag} {σ : L2.St} {F F' : Hp} (l : FLe F F') : ∀ {ks : List (Option Nat)} {ds : List D} {vs : List V}, ArgR K σ F ks ds vs → ArgR K σ F' ks ds vs
  | [], ds, vs, h => h
  | none :: ks, ds, vs, ⟨d, r, v, s, e1, e2, h, k⟩ => ⟨d, r, v, s, e1, e2, Rep.mono l _ _ h, ArgR.mono l k⟩
  | some i :: ks, ds, vs, ⟨r, v, s, e1, e2, h, k⟩ => ⟨r, v, s, e1, e2, h, ArgR.mono l k⟩
theorem dc_val (ha : PE X e (sD X.K E os fa)) (hr : PA X es (sC X.K E os ks fr)) (hs : starEach (e :: es) X.env = (false, eval e X.env) :: starEach es X.env := by rfl) : PA X (e :: es) (sC X.K E os (none :: ks) (eCons fa fr)) :=
  PA.weak (pa_cons ha hr hs) fun σ H Q ⟨g, ρ, F, r, w⟩ => by
    refine tG.bind r w fun d v ρ1 H1 F1 hR1 le1 rx w1 => ?_
    refine tG.bind hR1 w1 fun ds vs ρ2 H2 F2 hR2 le2 ry w2 => ?_
    exact w2.ret (v :: vs) H2 F2 hR2 FLe.refl ⟨d, ds, v, vs, rfl, rfl, Rep.mono le2 _ _ rx, ry⟩
theorem dc_own {i : Nat} (ha : PE X e (tVar i)) (hr : PA X es (sC X.K E os ks fr)) (hs : starEach (e :: es) X.env = (false, eval e X.env) :: starEach es X.env := by rfl) : PA X (e :: es) (sC X.K E os (some i :: ks) (eConsO i fr)) :=
  PA.weak (pa_cons ha hr hs) fun σ H Q ⟨g, ρ, F, r, w⟩ => by
    obtain ⟨d0, h0, w0⟩ := w.var
    obtain ⟨x, hx, _⟩ := r.view h0
    refine ⟨x, hx, ?_⟩
    refine tG.bind r w0 fun ds vs ρ2 H2 F2 hR2 le2 ry w2 => ?_
    exact w2.ret (x :: vs) H2 F2 hR2 FLe.refl ⟨ds, x, vs, rfl, rfl, hx, ry⟩
theorem call_read {K : Frag} {rtm : Bool} {rl : Gh → Ev → L2.St → Hp → Hp → D → V → Prop} {σ : L2.St} {H : Hp} {Q : VK} (ho : ∀ i, some i ∈ ks → os[i]? = some true) (hn : (ks.filterMap id).Nodup)
    (hrl : ∀ (g : Gh) (ρ ρ0 : Ev) (H F H0 F0 : Hp) (vs : List V) (d : D) (ds' : List D) (v : V), R K g os ρ0 σ H0 F0 → (∀ (i : Nat) (e : D), ρ[i]? = some (some e) → ∃ e', ρ0[i]? = some (some e')) → R K g os ρ σ H F → POk K (ks.map Option.isSome) rtm F0 H0 vs d ds' F H v → rl g ρ σ H F d v)
    (h : tG K E os rl (eCall ks m fr) σ H Q) : sC K E os ks fr σ H fun vs H1 => spD K (ks.map Option.isSome) rtm m (vs ++ []) H1 Q E := by
  obtain ⟨g, ρ, F, r, w⟩ := h
  refine tG.bind r w fun ds vs ρ1 H1 F1 hR1 le1 rx w1 => ?_
  rw [List.append_nil]
  unfold callM at w1
  cases q : fill ks ds ρ1 with
  | none => rw [q] at w1; exact w1.elim
  | some ds1 =>
    rw [q] at w1
    refine ⟨F1, ds1, hR1.args rx q ho hn, ?_⟩
    dsimp only at w1
    cases q2 : m ds1 with
    | ok pr =>
      obtain ⟨d, ds'⟩ := pr
      rw [q2] at w1
      intro v F' H' pk
      have r2 := hR1.called rx q ho hn pk
      refine w1 v H' F' r2 pk.le (hrl g _ ρ1 H' F' H1 F1 vs d ds' v hR1 (fun i e h => ?_) r2 pk)
      by_cases hm : some i ∈ ks
      · obtain ⟨j, hj⟩ := List.getElem?_of_mem hm
        obtain ⟨_, _, _, h2⟩ := rx.facts q
        obtain ⟨e0, p1, _⟩ := h2 j i hj
        exact ⟨e0, p1⟩
      · rw [back_out hm] at h; exact ⟨e, h⟩
    | exc x =>
      rw [q2] at w1
      intro c dd H' F' he
      refine w1 c dd H' F' ⟨he.cls, he.fld, he.sub, fun b o q0 hp => ?_, hR1.f0.trans he.f0, fun b u z => ?_⟩
      · rcases hR1.frame b o q0 hp with z | z
        · refine (he.frame b o z fun j hj => ?_).elim .inl fun ⟨_, z⟩ => nomatch z
          obtain ⟨k, _, z1, z2⟩ := mem_pinsFrom.mp hj
          obtain ⟨k', z3, z4⟩ := isSome_at z1
          obtain ⟨_, _, _, h2⟩ := rx.facts q
          cases k' with
          | none => cases z4
          | some s =>
            obtain ⟨e0, p1, p2, v', p3, p4⟩ := h2 k s z3
            rw [z2] at p3
            cases p3
            obtain ⟨a, p5, _, _, p6⟩ := hR1.ow s e0 (ho s (List.mem_of_getElem? z3)) p1
            rw [p4] at p5
            cases p5
            rcases p6 with ⟨j', hj'⟩ | hz
            · exact hp j' hj'
            · rw [q0] at hz; cases hz
        · exact .inr z
      · rcases he.fresh b u z with z | z | ⟨xs, z1, z2⟩
        · exact hR1.fresh b u z
        · exact .inr (.inl (hR1.h0_none z))
        · exact hR1.fresh_tup z1 z2
    | bad => rw [q2] at w1; exact w1.elim
theorem hrl_D {K : Frag} {σ : L2.St} : ∀ (g : Gh) (ρ ρ0 : Ev) (H F H0 F0 : Hp) (vs : List V) (d : D) (ds' : List D) (v : V), R K g os ρ0 σ H0 F0 → (∀ (i : Nat) (e : D), ρ[i]? = some (some e) → ∃ e', ρ0[i]? = some (some e')) → R K g os ρ σ H F → POk K (ks.map Option.isSome) false F0 H0 vs d ds' F H v → rD K g ρ σ H F d v :=
  fun g ρ ρ0 H F H0 F0 vs d ds' v _ _ _ pk => pk.ret
theorem hrl_O {K : Frag} {σ : L2.St} : ∀ (g : Gh) (ρ ρ0 : Ev) (H F H0 F0 : Hp) (vs : List V) (d : D) (ds' : List D) (v : V), R K g os ρ0 σ H0 F0 → (∀ (i : Nat) (e : D), ρ[i]? = some (some e) → ∃ e', ρ0[i]? = some (some e')) → R K g os ρ σ H F → POk K (ks.map Option.isSome) true F0 H0 vs d ds' F H v → rO K os g ρ σ H F d v :=
  fun g ρ ρ0 H F H0 F0 vs d ds' v r0 hw r pk => by
    obtain ⟨a, e1, e2, e3, e4⟩ := pk.ret
    refine ⟨a, e1, e2, e3, r0.h0_none e4, fun i e h1 h2 h3 => ?_⟩
    obtain ⟨e', h4⟩ := hw i e h2
    obtain ⟨b, q1, _, q3, _⟩ := r0.ow i e' h1 h4
    rw [h3] at q1; cases q1
    obtain ⟨o, q4, _⟩ := q3.there
    rw [e4] at q4; cases q4
theorem de_call (F : FnOk X.prog X.w X.K X.mg X.base CX0 k f fd ps (spD X.K as false m)) (has : as = ks.map Option.isSome) (hr : Room k X.A) (hg : Gl X x) (hm : X.mg x = some (.ref f)) (hk : PySem.W.keepIn X.K (.ref f) = true) (hb : Binds X.K fd ps [])
    (ha : PA X (e :: es) (sC X.K E os ks fr)) (ho : ∀ i, some i ∈ ks → os[i]? = some true) (hn : (ks.filterMap id).Nodup) (hdb : (x == ("__debug__" : Str)) = false := by decide) (he : starEach (e :: es) X.env = (false, eval e X.env) :: starEach es X.env := by rfl) (hpl : (backTo pos (starEach es X.env)).any (·.1) = false := by rfl) :
    PE X (.Call (.Name x p) (e :: es) [] pos) (sD X.K E os (eCall ks m fr)) := by
  subst has
  exact PE.weak (pe_call (E := E) F hr hg hm hk hb .nil pass0 ha hdb he hpl) fun σ H Q h => call_read ho hn hrl_D h
theorem do_call (F : FnOk X.prog X.w X.K X.mg X.base CX0 k f fd ps (spD X.K as true m)) (has : as = ks.map Option.isSome) (hr : Room k X.A) (hg : Gl X x) (hm : X.mg x = some (.ref f)) (hk : PySem.W.keepIn X.K (.ref f) = true) (hb : Binds X.K fd ps [])
    (ha : PA X (e :: es) (sC X.K E os ks fr)) (ho : ∀ i, some i ∈ ks → os[i]? = some true) (hn : (ks.filterMap id).Nodup) (hdb : (x == ("__debug__" : Str)) = false := by decide) (he : starEach (e :: es) X.env = (false, eval e X.env) :: starEach es X.env := by rfl) (hpl : (backTo pos (starEach es X.env)).any (·.1) = false := by rfl) :
    PE X (.Call (.Name x p) (e :: es) [] pos) (sO X.K E os (eCall ks m fr)) := by
  subst has
  exact PE.weak (pe_call (E := E) F hr hg hm hk hb .nil pass0 ha hdb he hpl) fun σ H Q h => call_read ho hn hrl_O h
end
end DL
/-! DL6: operators, comparisons, subscripts, stores, built-ins. -/
namespace DL
open PySem PySem.Spec L2
set_option autoImplicit false
/-! ### arithmetic -/
def addD : D → D → Res D
  | .int i, .int j => .ok (.int (i + j))
  | .str x, .str y => if x.length + y.length ≤ sizeLine then .ok (.str (x ++ y)) else .bad
  | .lst xs, .lst ys => if xs.length + ys.length ≤ sizeLine then .ok (.lst (xs ++ ys)) else .bad
  | .tup xs, .tup ys => if xs.length + ys.length ≤ sizeLine ∧ xs ≠ [] ∧ ys ≠ [] then .ok (.tup (xs ++ ys)) else .bad
  | _, _ => .bad
def subD : D → D → Res D
  | .int i, .int j => .ok (.int (i - j))
  | _, _ => .bad
def okMul (i j : Int) : Bool := decide ((-(2 ^ 64) < i ∧ i < 2 ^ 64) ∨ (-(2 ^ 64) < j ∧ j < 2 ^ 64) ∨ i.natAbs.log2 + j.natAbs.log2 < 1000000)
def mulD : D → D → Res D
  | .int i, .int j => if okMul i j = true then .ok (.int (i * j)) else .bad
  | _, _ => .bad
def okDiv (j : Int) : Bool := decide (j ≠ 0 ∧ j.natAbs.log2 < 9000)
def fdivD : D → D → Res D
  | .int i, .int j => if okDiv j = true then .ok (.int (i.fdiv j)) else .bad
  | _, _ => .bad
def modD : D → D → Res D
  | .int i, .int j => if j ≠ 0 then .ok (.int (i.fmod j)) else .bad
  | _, _ => .bad
def powD : D → D → Res D
  | .int i, .int j => if 0 ≤ j ∧ j ≤ 1000000 ∧ i.natAbs < 2 ^ 64 then .ok (.int (i ^ j.toNat)) else .bad
  | _, _ => .bad
def negD : D → Res D
  | .int i => .ok (.int (-i))
  | _ => .bad
theorem noex2 {g2 : D → D → Res D} (h : ∀ x y e, g2 x y ≠ .exc e) : ∀ x y, Noex (g2 x y) := h
theorem addD_nx (x y : D) : Noex (addD x y) := fun e h => by
  unfold addD at h
  split at h <;> first | cases h | (split at h <;> cases h)
theorem subD_nx (x y : D) : Noex (subD x y) := fun e h => by unfold subD at h; split at h <;> cases h
theorem mulD_nx (x y : D) : Noex (mulD x y) := fun e h => by
  unfold mulD at h
  split at h <;> first | cases h | (split at h <;> cases h)
theorem fdivD_nx (x y : D) : Noex (fdivD x y) := fun e h => by
  unfold fdivD at h
  split at h <;> first | cases h | (split at h <;> cases h)
theorem modD_nx (x y : D) : Noex (modD x y) := fun e h => by
  unfold modD at h
  split at h <;> first | cases h | (split at h <;> cases h)
theorem powD_nx (x y : D) : Noex (powD x y) := fun e h => by
  unfold powD at h
  split at h <;> first | cases h | (split at h <;> cases h)
theorem negD_nx (x : D) : Noex (negD x) := fun e h => by unfold negD at h; split at h <;> cases h
section
variable {X : Cx}
def rCatL (K : Frag) : R2 := fun x y H Q => ∃ l b xs zs, x = .ref l ∧ y = .ref b ∧ SqL K H l xs ∧ SqL K H b zs ∧ xs.length + zs.length ≤ sizeLine ∧ ∀ p, H p = none → Q (.ref p) (upd H p (.lst (xs ++ zs)))
theorem op_catL : OpR X (binaryOp .Add) (rCatL X.K) := by
  intro pins s σ H x y v u Q I rx ry h
  obtain ⟨l, b, xs, zs, rfl, rfl, hH, hB, hz, q⟩ := h
  cases rx
  cases ry
  obtain ⟨its, r, pl, z⟩ := I.list hH
  obtain ⟨its2, r2, pl2, z2⟩ := I.list hB
  obtain ⟨⟨cls, dd, data, sl⟩, n, ho, hc, hdd, hd⟩ := id pl
  obtain ⟨⟨cls2, dd2, data2, sl2⟩, n2, ho2, hc2, hdd2, hd2⟩ := id pl2
  simp only at hc hd hc2 hd2
  subst hc hd hc2 hd2
  have l1 := r.length
  have l2 := r2.length
  have e : its.toArray ++ its2.toArray = (its ++ its2).toArray := by simp
  refine concat_meets ⟨_, ho, rfl⟩ ⟨_, ho2, rfl⟩ PySem.noFill_list_add PySem.seq_list_add PySem.F.slot_list_add PySem.F.entry_list_add (PySem.F.args_list_add_2 _ _) (PyProof.Rows.list_addW l b its.toArray its2.toArray n n2 dd dd2 sl sl2 (by simp; omega)) ⟨ho, ho2, ?_⟩
  rw [e]
  refine ⟨.ref s.heap.objs.size, _, I.laid (t' := s.toks) (o := .lst (xs ++ zs)) (fun b ob q => Heap.get?_push_of_some _ q) (Nat.le_refl _) ?_, rfl, q _ (I.hok.fresh (Nat.le_refl _))⟩
  exact ⟨by rw [List.length_append]; exact hz, its ++ its2, 0, r.append r2, Heap.get?_push_size _ rfl⟩
theorem op_fdivA : OpR X (binaryOp .FloorDiv) (L2.rI (fun _ j => j ≠ 0 ∧ j.natAbs.log2 < 9000) fun i j => .int (i.fdiv j)) := opI fun _ _ _ _ _ _ _ hc q => PyProof.Rows.floordiv_int hc.1 q (.inl (PyProof.noPylong_of_log2 hc.2))
abbrev rAdd4 (K : Frag) : R2 := fun x y H Q => (L2.rI0 (fun i j => V.int (i + j)) x y H Q ∨ (∃ i j, x = .str i ∧ y = .str j ∧ i.length + j.length ≤ sizeLine ∧ Q (.str (i ++ j)) H)) ∨ rCatL K x y H Q ∨ rCatT K x y H Q
theorem op_add4 : OpR X (binaryOp .Add) (rAdd4 X.K) := OpR.or (OpR.or op_add op_add_str) (OpR.or op_catL op_catT)
abbrev rMul2 : R2 := fun x y H Q => L2.rI CMul (fun i j => V.int (i * j)) x y H Q ∨ L2.rI CMulW (fun i j => V.int (i * j)) x y H Q
theorem op_mul2 : OpR X (binaryOp .Mult) rMul2 := OpR.or op_mul op_mulW
end
section
variable {K : Frag} {os : List Bool}
theorem reps_ne {F : Hp} {ds : List D} {vs : List V} (r : Reps K F ds vs) (h : ds ≠ []) : vs ≠ [] := fun z => by
  subst z
  have := r.length
  cases ds with
  | nil => exact h rfl
  | cons => cases this
theorem addD_ok : Op2 K os (rAdd4 K) addD (rD K) := by
  intro g ρ σ H F x y dx dy d Q hR vx vy e q
  unfold addD at e
  split at e
  · rename_i i j
    cases e
    exact .inl (.inl ⟨i, j, vx, vy, q _ H F hR FLe.refl rfl⟩)
  · rename_i i j
    split at e
    · rename_i hl
      cases e
      exact .inl (.inr ⟨i, j, vx, vy, hl, q _ H F hR FLe.refl rfl⟩)
    · cases e
  · rename_i xs ys
    split at e
    · rename_i hl
      cases e
      obtain ⟨a, vs, ea, ha, ra⟩ := vx
      obtain ⟨b, ws, eb, hb, rb⟩ := vy
      refine .inr (.inl ⟨a, b, vs, ws, ea, eb, ha, hb, by rw [ra.length, rb.length]; exact hl, fun p hp => ?_⟩)
      have le : FLe F (upd F p (.lst (vs ++ ws))) := FLe.upd (hR.none_of hp)
      exact q _ _ _ (hR.new hp (fun _ _ z => nomatch z)) le ⟨p, _, rfl, .inl upd_same, Reps.mono le _ _ (ra.append rb)⟩
    · cases e
  · rename_i xs ys
    split at e
    · rename_i hl
      cases e
      obtain ⟨a, vs, ea, ha, ra⟩ := vx
      obtain ⟨b, ws, eb, hb, rb⟩ := vy
      refine .inr (.inr ⟨a, b, vs, ws, ea, eb, ha, hb, reps_ne ra hl.2.1, by rw [ra.length, rb.length]; exact hl.1, fun z => absurd z (reps_ne rb hl.2.2), fun _ p hp => ?_⟩)
      have le : FLe F (upd F p (.tup (vs ++ ws))) := FLe.upd (hR.none_of hp)
      exact q _ _ _ (hR.new hp (fun _ _ z => nomatch z)) le ⟨p, _, rfl, .inl upd_same, Reps.mono le _ _ (ra.append rb)⟩
    · cases e
  · cases e
theorem subD_ok : Op2 K os (L2.rI0 fun i j => .int (i - j)) subD (rD K) := by
  intro g ρ σ H F x y dx dy d Q hR vx vy e q
  unfold subD at e
  split at e
  · rename_i i j
    cases e
    exact ⟨i, j, vx, vy, q _ H F hR FLe.refl rfl⟩
  · cases e
theorem mulD_ok : Op2 K os rMul2 mulD (rD K) := by
  intro g ρ σ H F x y dx dy d Q hR vx vy e q
  unfold mulD at e
  split at e
  · rename_i i j
    split at e
    · rename_i hl
      cases e
      have hl' := of_decide_eq_true hl
      rcases hl' with h | h | h
      · exact .inl ⟨i, j, vx, vy, .inl h, q _ H F hR FLe.refl rfl⟩
      · exact .inl ⟨i, j, vx, vy, .inr h, q _ H F hR FLe.refl rfl⟩
      · exact .inr ⟨i, j, vx, vy, h, q _ H F hR FLe.refl rfl⟩
    · cases e
  · cases e
theorem fdivD_ok : Op2 K os (L2.rI (fun _ j => j ≠ 0 ∧ j.natAbs.log2 < 9000) fun i j => .int (i.fdiv j)) fdivD (rD K) := by
  intro g ρ σ H F x y dx dy d Q hR vx vy e q
  unfold fdivD at e
  split at e
  · rename_i i j
    split at e
    · rename_i hl
      cases e
      exact ⟨i, j, vx, vy, of_decide_eq_true hl, q _ H F hR FLe.refl rfl⟩
    · cases e
  · cases e
theorem modD_ok : Op2 K os (L2.rI (fun _ j => j ≠ 0) fun i j => .int (i.fmod j)) modD (rD K) := by
  intro g ρ σ H F x y dx dy d Q hR vx vy e q
  unfold modD at e
  split at e
  · rename_i i j
    split at e
    · rename_i hl
      cases e
      exact ⟨i, j, vx, vy, hl, q _ H F hR FLe.refl rfl⟩
    · cases e
  · cases e
theorem powD_ok : Op2 K os (L2.rI CPow fun i j => .int (i ^ j.toNat)) powD (rD K) := by
  intro g ρ σ H F x y dx dy d Q hR vx vy e q
  unfold powD at e
  split at e
  · rename_i i j
    split at e
    · rename_i hl
      cases e
      exact ⟨i, j, vx, vy, hl, q _ H F hR FLe.refl rfl⟩
    · cases e
  · cases e
theorem negD_ok : Op1 K os (rU fun i => .int (-i)) negD (rD K) := by
  intro g ρ σ H F x dx d Q hR vx e q
  unfold negD at e
  split at e
  · rename_i i
    cases e
    exact ⟨i, vx, q _ H F hR FLe.refl rfl⟩
  · cases e
/-! ### comparisons -/
def cmpD (f : Int → Int → Bool) : D → D → Res Bool
  | .int i, .int j => .ok (f i j)
  | _, _ => .bad
theorem cmpD_nx (f : Int → Int → Bool) (x y : D) : Noex (cmpD f x y) := fun e h => by unfold cmpD at h; split at h <;> cases h
theorem cmpD_ok (f : Int → Int → Bool) : Op2B K os (L2.rI0 fun i j => .bl (f i j)) (cmpD f) := by
  intro g ρ σ H F x y dx dy b Q hR vx vy e q
  unfold cmpD at e
  split at e
  · rename_i i j
    cases e
    exact ⟨i, j, vx, vy, q H F hR FLe.refl⟩
  · cases e
def toP : D → Option PyData
  | .non => some .none
  | .bl b => some (.bool b)
  | .int i => some (.int i)
  | .str x => some (.str x)
  | .lst xs => (toPs xs).map .list
  | .tup xs => (toPs xs).map .tuple
  | _ => none
where toPs : List D → Option (List PyData)
  | [] => some []
  | d :: ds => match toP d, toPs ds with
    | some p, some ps => some (p :: ps)
    | _, _ => none
abbrev toPs := toP.toPs
mutual
theorem dp_of {F H : Hp} (s : ∀ a u, F a = some u → Rd' H a u) : ∀ (d : D) (v : V) (p : PyData), toP d = some p → Rep K F d v → Dp K H v p
  | .non, v, p, e, h => by
    cases e; cases (show v = .non from h); exact .non
  | .bl b, v, p, e, h => by
    cases e; cases (show v = .bl b from h); exact .bl b
  | .int i, v, p, e, h => by
    cases e; cases (show v = .int i from h); exact .int i
  | .str x, v, p, e, h => by
    cases e; cases (show v = .str x from h); exact .str x
  | .lst xs, v, p, e, h => by
    obtain ⟨ps, e1, e2⟩ := Option.map_eq_some_iff.mp (show (toPs xs).map PyData.list = some p from e)
    subst e2
    obtain ⟨a, vs, ea, ha, ra⟩ := h
    subst ea
    exact .lst (ha.sq s) (dps_of s xs vs ps e1 ra)
  | .tup xs, v, p, e, h => by
    obtain ⟨ps, e1, e2⟩ := Option.map_eq_some_iff.mp (show (toPs xs).map PyData.tuple = some p from e)
    subst e2
    obtain ⟨a, vs, ea, ha, ra⟩ := h
    subst ea
    exact .tup (ha.sq s) (dps_of s xs vs ps e1 ra)
  | .dic _ _, v, p, e, h => by cases e
  | .set _, v, p, e, h => by cases e
theorem dps_of {F H : Hp} (s : ∀ a u, F a = some u → Rd' H a u) : ∀ (ds : List D) (vs : List V) (ps : List PyData), toPs ds = some ps → Reps K F ds vs → DpAll K H vs ps
  | [], vs, ps, e, h => by
    cases e
    cases (show vs = [] from h)
    exact .nil
  | d :: ds, vs, ps, e, h => by
    obtain ⟨v, r, ev, h1, h2⟩ := h
    subst ev
    have e' : (match toP d, toPs ds with
      | some p, some ps => some (p :: ps)
      | _, _ => none) = some ps := e
    cases q1 : toP d with
    | none => rw [q1] at e'; cases e'
    | some p =>
      cases q2 : toPs ds with
      | none => rw [q1, q2] at e'; cases e'
      | some ps' =>
        rw [q1, q2] at e'
        cases e'
        exact .cons (dp_of s d v p q1 h1) (dps_of s ds r ps' q2 h2)
end
theorem dp_view {F H : Hp} (s : ∀ a u, F a = some u → Rd' H a u) {d : D} {v : V} {p : PyData} (e : toP d = some p) (h : View K F H d v) : Dp K H v p := by
  cases d with
  | lst xs =>
    obtain ⟨ps, e1, e2⟩ := Option.map_eq_some_iff.mp (show (toPs xs).map PyData.list = some p from e)
    subst e2
    obtain ⟨a, vs, ea, ha, ra⟩ := h
    subst ea
    exact .lst ha (dps_of s xs vs ps e1 ra)
  | tup xs =>
    obtain ⟨ps, e1, e2⟩ := Option.map_eq_some_iff.mp (show (toPs xs).map PyData.tuple = some p from e)
    subst e2
    obtain ⟨a, vs, ea, ha, ra⟩ := h
    subst ea
    exact .tup ha (dps_of s xs vs ps e1 ra)
  | dic _ _ => cases e
  | set _ => cases e
  | non => exact dp_of s _ _ _ e h
  | bl _ => exact dp_of s _ _ _ e h
  | int _ => exact dp_of s _ _ _ e h
  | str _ => exact dp_of s _ _ _ e h
def eqD (x y : D) : Res Bool := match toP x, toP y with
  | some p, some q => if SeqAt.shaped p = true ∧ SeqAt.shaped q = true then .ok (PyData.eqv p q) else .bad
  | _, _ => .bad
def neD (x y : D) : Res Bool := match eqD x y with
  | .ok b => .ok (!b)
  | r => r
theorem eqD_nx (x y : D) : Noex (eqD x y) := fun e h => by
  unfold eqD at h
  split at h
  · split at h <;> cases h
  · cases h
theorem neD_nx (x y : D) : Noex (neD x y) := fun e h => by
  unfold neD at h
  split at h
  · cases h
  · exact eqD_nx x y e h
theorem eqD_spec {x y : D} {b : Bool} (h : eqD x y = .ok b) : ∃ p q, toP x = some p ∧ toP y = some q ∧ SeqAt.shaped p = true ∧ SeqAt.shaped q = true ∧ b = PyData.eqv p q := by
  unfold eqD at h
  split at h
  · rename_i p q e1 e2
    split at h
    · rename_i hs
      cases h
      exact ⟨p, q, e1, e2, hs.1, hs.2, rfl⟩
    · cases h
  · cases h
theorem eqD_ok : Op2B K os (rEqD K) eqD := by
  intro g ρ σ H F x y dx dy b Q hR vx vy e q
  obtain ⟨p, p', e1, e2, s1, s2, rfl⟩ := eqD_spec e
  exact ⟨p, p', dp_view hR.sub e1 vx, dp_view hR.sub e2 vy, s1, s2, q H F hR FLe.refl⟩
theorem neD_ok : Op2B K os (rNeD K) neD := by
  intro g ρ σ H F x y dx dy b Q hR vx vy e q
  unfold neD at e
  split at e
  · rename_i b' eb
    cases e
    obtain ⟨p, p', e1, e2, s1, s2, rfl⟩ := eqD_spec eb
    exact ⟨p, p', dp_view hR.sub e1 vx, dp_view hR.sub e2 vy, s1, s2, q H F hR FLe.refl⟩
  · rename_i r hr
    exact absurd e (hr b)
/-- is None, True, False -/
def isC : D → D → Res Bool
  | .non, .non => .ok true
  | _, .non => .ok false
  | .bl b, .bl c => .ok (b == c)
  | _, .bl _ => .ok false
  | _, _ => .bad
def isNotC (x y : D) : Res Bool := match isC x y with
  | .ok b => .ok (!b)
  | r => r
theorem isC_nx (x y : D) : Noex (isC x y) := fun e h => by cases y <;> cases x <;> cases h
theorem isNotC_nx (x y : D) : Noex (isNotC x y) := fun e h => by
  unfold isNotC at h
  split at h
  · cases h
  · exact isC_nx x y e h
end
def rIsC : R2 := fun x y H Q => ((y = .non) ∨ ∃ b, y = .bl b) ∧ (∀ n, x ≠ .ty n) ∧ Q (.bl (decide (x = y))) H
def rIsNotC : R2 := fun x y H Q => ((y = .non) ∨ ∃ b, y = .bl b) ∧ (∀ n, x ≠ .ty n) ∧ Q (.bl (!decide (x = y))) H
section
variable {X : Cx}
theorem isC_val {x y : V} {v u : Value} (hy : (y = .non) ∨ ∃ b, y = .bl b) (hx : ∀ n, x ≠ .ty n) (rx : RelV x v) (ry : RelV y u) : plainIs v u = true ∧ (v == u) = decide (x = y) := by
  rcases hy with rfl | ⟨b, rfl⟩
  · cases (show u = Value.none from ry)
    cases x with
    | non => cases (show v = Value.none from rx); exact ⟨rfl, rfl⟩
    | bl c => cases (show v = Value.bool c from rx); exact ⟨rfl, rfl⟩
    | int i => obtain ⟨t, rfl⟩ := (show ∃ t, v = Value.int i t from rx); exact ⟨rfl, rfl⟩
    | str i => obtain ⟨t, rfl⟩ := (show ∃ t, v = Value.str i t from rx); exact ⟨rfl, rfl⟩
    | byt i => obtain ⟨t, rfl⟩ := (show ∃ t, v = Value.bytes i t from rx); exact ⟨rfl, rfl⟩
    | flt i => obtain ⟨t, rfl⟩ := (show ∃ t, v = Value.float i t from rx); exact ⟨rfl, rfl⟩
    | ref i => cases (show v = Value.ref i from rx); exact ⟨rfl, rfl⟩
    | ty n => exact absurd rfl (hx n)
  · cases (show u = Value.bool b from ry)
    cases x with
    | non => cases (show v = Value.none from rx); exact ⟨rfl, rfl⟩
    | bl c =>
      cases (show v = Value.bool c from rx)
      refine ⟨rfl, ?_⟩
      cases b <;> cases c <;> rfl
    | int i => obtain ⟨t, rfl⟩ := (show ∃ t, v = Value.int i t from rx); exact ⟨rfl, rfl⟩
    | str i => obtain ⟨t, rfl⟩ := (show ∃ t, v = Value.str i t from rx); exact ⟨rfl, rfl⟩
    | byt i => obtain ⟨t, rfl⟩ := (show ∃ t, v = Value.bytes i t from rx); exact ⟨rfl, rfl⟩
    | flt i => obtain ⟨t, rfl⟩ := (show ∃ t, v = Value.float i t from rx); exact ⟨rfl, rfl⟩
    | ref i => cases (show v = Value.ref i from rx); exact ⟨rfl, rfl⟩
    | ty n => exact absurd rfl (hx n)
theorem op_isC : OpR X (compareOp .Is) rIsC := by
  intro pins s σ H x y v u Q I rx ry ⟨hy, hx, q⟩
  obtain ⟨h1, h2⟩ := isC_val hy hx rx ry
  exact wpAny_is_plain h1 ⟨.bl _, H, I, by rw [h2]; rfl, q⟩
theorem op_isNotC : OpR X (compareOp .IsNot) rIsNotC := by
  intro pins s σ H x y v u Q I rx ry ⟨hy, hx, q⟩
  obtain ⟨h1, h2⟩ := isC_val hy hx rx ry
  exact wpAny_isNot_plain h1 ⟨.bl _, H, I, by rw [h2]; rfl, q⟩
end
section
variable {K : Frag} {os : List Bool}
theorem view_no_ty {F H : Hp} {d : D} {v : V} (h : View K F H d v) : ∀ n, v ≠ .ty n := fun n z => by
  subst z
  cases d with
  | non => cases h
  | bl _ => cases h
  | int _ => cases h
  | str _ => cases h
  | lst _ => obtain ⟨a, vs, e, _⟩ := h; cases e
  | tup _ => obtain ⟨a, vs, e, _⟩ := h; cases e
  | dic _ _ => obtain ⟨a, e, _⟩ := h; cases e
  | set _ => exact h.elim
theorem isC_dec {F H : Hp} {dx dy : D} {x y : V} {b : Bool} (vx : View K F H dx x) (vy : View K F H dy y) (e : isC dx dy = .ok b) : ((y = .non) ∨ ∃ b, y = .bl b) ∧ decide (x = y) = b := by
  have nr : ∀ {a : Addr} {y : V}, (y = .non ∨ ∃ b, y = .bl b) → decide (V.ref a = y) = false := fun {a y} h => by
    rcases h with rfl | ⟨b, rfl⟩ <;> rfl
  cases dy with
  | non =>
    cases (show y = .non from vy)
    refine ⟨.inl rfl, ?_⟩
    cases dx with
    | non => cases (show x = .non from vx); cases e; rfl
    | bl c => cases (show x = .bl c from vx); cases e; rfl
    | int c => cases (show x = .int c from vx); cases e; rfl
    | str c => cases (show x = .str c from vx); cases e; rfl
    | lst _ => obtain ⟨a, vs, e1, _⟩ := vx; subst e1; cases e; rfl
    | tup _ => obtain ⟨a, vs, e1, _⟩ := vx; subst e1; cases e; rfl
    | dic _ _ => obtain ⟨a, e1, _⟩ := vx; subst e1; cases e; rfl
    | set _ => exact (show False from vx).elim
  | bl c0 =>
    cases (show y = .bl c0 from vy)
    refine ⟨.inr ⟨c0, rfl⟩, ?_⟩
    cases dx with
    | non => cases (show x = .non from vx); cases e; rfl
    | bl c =>
      cases (show x = .bl c from vx)
      cases e
      cases c <;> cases c0 <;> rfl
    | int c => cases (show x = .int c from vx); cases e; rfl
    | str c => cases (show x = .str c from vx); cases e; rfl
    | lst _ => obtain ⟨a, vs, e1, _⟩ := vx; subst e1; cases e; rfl
    | tup _ => obtain ⟨a, vs, e1, _⟩ := vx; subst e1; cases e; rfl
    | dic _ _ => obtain ⟨a, e1, _⟩ := vx; subst e1; cases e; rfl
    | set _ => exact (show False from vx).elim
  | _ => cases dx <;> cases e
theorem isC_ok : Op2B K os rIsC isC := by
  intro g ρ σ H F x y dx dy b Q hR vx vy e q
  obtain ⟨h1, h2⟩ := isC_dec vx vy e
  refine ⟨h1, view_no_ty vx, ?_⟩
  rw [h2]
  exact q H F hR FLe.refl
theorem isNotC_ok : Op2B K os rIsNotC isNotC := by
  intro g ρ σ H F x y dx dy b Q hR vx vy e q
  unfold isNotC at e
  split at e
  · rename_i b' eb
    cases e
    obtain ⟨h1, h2⟩ := isC_dec vx vy eb
    refine ⟨h1, view_no_ty vx, ?_⟩
    rw [h2]
    exact q H F hR FLe.refl
  · rename_i r hr
    exact absurd e (hr b)
end
end DL
/-! DL7: comprehensions. -/
namespace DL
open PySem PySem.Spec L2
set_option autoImplicit false
/-- the slots that own something, with their objects -/
def ownPins (os : List Bool) (ρ : Ev) (σ : L2.St) : List (Nat × Addr) := (List.range ρ.length).filterMap fun i => match os[i]?, ρ[i]?, σ[i]? with
  | some true, some (some _), some (some (V.ref a)) => some (i, a)
  | _, _, _ => none
theorem mem_ownPins {os : List Bool} {ρ : Ev} {σ : L2.St} {i : Nat} {a : Addr} : (i, a) ∈ ownPins os ρ σ ↔ os[i]? = some true ∧ (∃ d, ρ[i]? = some (some d)) ∧ σ[i]? = some (some (.ref a)) := by
  unfold ownPins
  rw [List.mem_filterMap]
  constructor
  · rintro ⟨j, hj, h⟩
    split at h
    · rename_i d b h1 h2 h3
      cases h
      exact ⟨h1, ⟨d, h2⟩, h3⟩
    · cases h
  · rintro ⟨h1, ⟨d, h2⟩, h3⟩
    refine ⟨i, List.mem_range.mpr (List.getElem?_eq_some_iff.mp h2).1, ?_⟩
    rw [h1, h2, h3]
def Gh.at (g : Gh) (os : List Bool) (ρ : Ev) (σ : L2.St) (H F : Hp) : Gh := ⟨H, F, ownPins os ρ σ, g.lk, []⟩
section
variable {K : Frag} {g : Gh} {os : List Bool} {ρ ρ' : Ev} {σ : L2.St} {H F H' F' : Hp}
theorem R.rebase (r : R K g os ρ σ H F) : R K (g.at os ρ σ H F) os ρ σ H F where
  len := r.len
  leno := r.leno
  sub := r.sub
  fz := r.fz
  ow := fun i d h1 h2 => by
    obtain ⟨a, e1, e2, e3, _⟩ := r.ow i d h1 h2
    exact ⟨a, e1, e2, e3, .inl ⟨i, mem_ownPins.mpr ⟨h1, ⟨d, h2⟩, e1⟩⟩⟩
  dj := r.dj
  frame := fun b o e _ => .inl e
  f0 := FLe.refl
  fresh := fun b u e => .inl e
  fr := fun b od u _ h => .inr h
  pin := fun i a hm => mem_ownPins.mp hm
  lock := r.lock
  kt := fun _ _ hm => nomatch hm
theorem R.unbase (r : R K g os ρ σ H F) (k : R K (g.at os ρ σ H F) os ρ' σ H' F') : R K g os ρ' σ H' F' where
  len := k.len
  leno := k.leno
  sub := k.sub
  fz := k.fz
  ow := fun i d h1 h2 => by
    obtain ⟨a, e1, e2, e3, e4⟩ := k.ow i d h1 h2
    refine ⟨a, e1, e2, e3, ?_⟩
    rcases e4 with ⟨j, hj⟩ | hn
    · obtain ⟨q1, ⟨d', q2⟩, q3⟩ := mem_ownPins.mp hj
      obtain ⟨a', p1, _, _, p4⟩ := r.ow j d' q1 q2
      rw [q3] at p1; cases p1
      exact p4
    · exact .inr (r.h0_none hn)
  dj := k.dj
  frame := fun b o e hp => by
    rcases r.frame b o e hp with z | z
    · refine (k.frame b o z fun j hj => ?_)
      obtain ⟨q1, ⟨d', q2⟩, q3⟩ := mem_ownPins.mp hj
      obtain ⟨a', p1, _, _, p4⟩ := r.ow j d' q1 q2
      rw [q3] at p1; cases p1
      rcases p4 with ⟨j', hj'⟩ | hn
      · exact hp j' hj'
      · rw [e] at hn; cases hn
    · exact .inr z
  f0 := r.f0.trans k.f0
  fresh := fun b u e => by
    rcases k.fresh b u e with z | z | ⟨xs, z1, z2⟩
    · exact r.fresh b u z
    · exact .inr (.inl (r.h0_none z))
    · exact r.fresh_tup z1 z2
  fr := fun b od u h1 h2 => by
    rcases k.fr b od u h1 h2 with z | z
    · exact .inl z
    · rcases k.fresh b u h1 with y | y | ⟨xs, y1, y2⟩
      · exact r.fr b od u y z
      · have z' : H b = some (.frz od u) := z
        have y' : H b = none := y
        rw [z'] at y'; cases y'
      · have z' : H b = some (.frz od u) := z
        have y' : H b = some (.tup xs) := y2
        rw [z'] at y'; cases y'
  pin := fun i a hm => by
    obtain ⟨q1, q2, q3⟩ := r.pin i a hm
    exact k.pin i a (mem_ownPins.mpr ⟨q1, q2, q3⟩)
  lock := k.lock
  kt := fun i b hm hs => by
    obtain ⟨xs, e⟩ := r.kt i b hm hs
    rcases k.frame b _ e (fun j hj => by
      obtain ⟨q1, ⟨d', q2⟩, q3⟩ := mem_ownPins.mp hj
      obtain ⟨a', p1, _, p3, _⟩ := r.ow j d' q1 q2
      rw [q3] at p1; cases p1
      obtain ⟨o', e4, mo⟩ := p3.there
      rw [e] at e4; cases e4
      exact mo.elim) with z | ⟨od, z⟩
    · exact ⟨xs, z⟩
    · have z' : (b, od, HO.tup xs) ∈ g.lk := z
      have := (r.lock b od _ z').1
      rw [e] at this; cases this
/-- an object that is no slot's is kept -/
theorem R.keeps (r : R K g os ρ σ H F) (k : R K (g.at os ρ σ H F) os ρ' σ H' F') {a : Addr} {o : HO} (h : H a = some o) (mu : Mut (some o)) (hs : ∀ (i : Nat) (d : D), os[i]? = some true → ρ[i]? = some (some d) → σ[i]? ≠ some (some (.ref a))) : H' a = some o := by
  rcases k.frame a o h fun j hj => (by
    obtain ⟨q1, ⟨d', q2⟩, q3⟩ := mem_ownPins.mp hj
    exact hs j d' q1 q2 q3) with z | ⟨od, z⟩
  · exact z
  · have z' : (a, od, o) ∈ g.lk := z
    have := (r.lock a od o z').1
    rw [h] at this; cases this
theorem R.keepsF (r : R K g os ρ σ H F) (k : R K (g.at os ρ σ H F) os ρ' σ H' F') {a : Addr} {o : HO} (h : H a = some o) (mu : Mut (some o)) (hf : F a = none) : F' a = none := by
  cases z : F' a with
  | none => rfl
  | some u =>
    rcases k.fresh a u z with y | y | ⟨xs, y1, y2⟩
    · have y' : F a = some u := y
      rw [hf] at y'; cases y'
    · have y' : H a = none := y
      rw [h] at y'; cases y'
    · have y' : H a = some (.tup xs) := y2
      rw [h] at y'; cases y'
      exact mu.elim
def wipeE (ρ : Ev) : List Nat → Ev
  | [] => ρ
  | v :: vs => (wipeE ρ vs).set v none
def restE (ρ0 : Ev) : List Nat → Ev → Ev
  | [], ρ => ρ
  | v :: vs, ρ => (restE ρ0 vs ρ).set v (match ρ0[v]? with
    | some x => x
    | none => none)
theorem wipeE_len : ∀ {vs : List Nat}, (wipeE ρ vs).length = ρ.length
  | [] => rfl
  | v :: vs => by unfold wipeE; rw [List.length_set, wipeE_len]
theorem restE_len {ρ0 : Ev} : ∀ {vs : List Nat}, (restE ρ0 vs ρ).length = ρ.length
  | [] => rfl
  | v :: vs => by unfold restE; rw [List.length_set, restE_len]
theorem wipeE_out : ∀ {vs : List Nat} {i : Nat}, i ∉ vs → (wipeE ρ vs)[i]? = ρ[i]?
  | [], i, _ => rfl
  | v :: vs, i, h => by
    unfold wipeE
    rw [List.getElem?_set_ne (fun z => h (by rw [z]; exact List.mem_cons_self)), wipeE_out (fun z => h (List.mem_cons_of_mem _ z))]
theorem wipeE_in : ∀ {vs : List Nat} {i : Nat} {d : D}, i ∈ vs → (wipeE ρ vs)[i]? ≠ some (some d)
  | v :: vs, i, d, h => by
    unfold wipeE
    by_cases e : v = i
    · subst e
      rw [get_set, if_pos rfl]
      split <;> intro z <;> cases z
    · rw [List.getElem?_set_ne e]
      rcases List.mem_cons.mp h with z | z
      · exact absurd z.symm e
      · exact wipeE_in z
theorem wipe_set_out : ∀ {vs : List Nat} {i : Nat}, i ∉ vs → (wipe σ vs)[i]? = σ[i]? := fun {vs i} h => wipe_out h
theorem restE_out {ρ0 : Ev} : ∀ {vs : List Nat} {i : Nat}, i ∉ vs → (restE ρ0 vs ρ)[i]? = ρ[i]?
  | [], i, _ => rfl
  | v :: vs, i, h => by
    unfold restE
    rw [List.getElem?_set_ne (fun z => h (by rw [z]; exact List.mem_cons_self)), restE_out (fun z => h (List.mem_cons_of_mem _ z))]
theorem restE_in {ρ0 : Ev} : ∀ {vs : List Nat} {i : Nat} {d : D}, i ∈ vs → (restE ρ0 vs ρ)[i]? = some (some d) → ρ0[i]? = some (some d)
  | v :: vs, i, d, h, k => by
    unfold restE at k
    by_cases e : v = i
    · subst e
      rw [get_set, if_pos rfl] at k
      split at k
      · split at k
        · rename_i x hx
          rw [hx, ← Option.some.inj k]
        · cases k
      · cases k
    · rw [List.getElem?_set_ne e] at k
      rcases List.mem_cons.mp h with z | z
      · exact absurd z.symm e
      · exact restE_in z k
/-- some slots forgotten -/
theorem R.wipe (r : R K g os ρ σ H F) {vs : List Nat} (hv : ∀ v ∈ vs, os[v]? = some false) : R K g os (wipeE ρ vs) (L2.wipe σ vs) H F := by
  have out : ∀ {i : Nat} {d : D}, (wipeE ρ vs)[i]? = some (some d) → i ∉ vs ∧ ρ[i]? = some (some d) := fun {i d} h => by
    have hi : i ∉ vs := fun z => wipeE_in z h
    exact ⟨hi, by rwa [wipeE_out hi] at h⟩
  refine ⟨by rw [wipe_length, wipeE_len]; exact r.len, by rw [wipeE_len]; exact r.leno, r.sub, fun i d h1 h2 => ?_, fun i d h1 h2 => ?_, fun i j d e a hne h1 h2 h3 h4 h5 h6 => ?_, r.frame, r.f0, r.fresh, r.fr, fun i a hm => ?_, r.lock, fun i b hm hs => ?_⟩
  · obtain ⟨hi, h3⟩ := out h2
    rw [wipe_set_out hi]
    exact r.fz i d h1 h3
  · obtain ⟨hi, h3⟩ := out h2
    rw [wipe_set_out hi]
    exact r.ow i d h1 h3
  · obtain ⟨hi, h7⟩ := out h3
    obtain ⟨hj, h8⟩ := out h4
    rw [wipe_set_out hi] at h5
    rw [wipe_set_out hj] at h6
    exact r.dj i j d e a hne h1 h2 h7 h8 h5 h6
  · obtain ⟨q1, q2, q3⟩ := r.pin i a hm
    have hi : i ∉ vs := fun z => by rw [hv i z] at q1; cases q1
    rw [wipe_set_out hi, wipeE_out hi]
    exact ⟨q1, q2, q3⟩
  · exact r.kt i b hm (wipe_some hs).1
/-- an object that is nobody's is changed -/
theorem R.touch (r : R K g os ρ σ H F) {a : Addr} {o o' : HO} (hf : F a = none) (h0 : g.H0 a = none) (h : H a = some o') (mu : Mut (some o')) (hs : ∀ (i : Nat) (d : D), os[i]? = some true → ρ[i]? = some (some d) → σ[i]? ≠ some (some (.ref a))) : R K g os ρ σ (upd H a o) F where
  len := r.len
  leno := r.leno
  sub := fun b u e => by
    have ne : b ≠ a := ne_of_none e hf
    exact (r.sub b u e).imp (fun z => by rw [upd_ne ne]; exact z) fun ⟨m, ob, z⟩ => ⟨m, ob, by rw [upd_ne ne]; exact z⟩
  fz := r.fz
  ow := fun i d h1 h2 => by
    obtain ⟨b, e1, e2, e3, e4⟩ := r.ow i d h1 h2
    have ne : b ≠ a := fun z => by subst z; exact hs i d h1 h2 e1
    exact ⟨b, e1, e2, e3.heap (upd_ne ne), e4⟩
  dj := r.dj
  frame := fun b u e hp => by
    have ne : b ≠ a := ne_of_none e h0
    exact (r.frame b u e hp).imp (fun z => by rw [upd_ne ne]; exact z) id
  f0 := r.f0
  fresh := r.fresh
  fr := fun b od u h1 h2 => by
    have ne : b ≠ a := ne_of_none h1 hf
    rw [upd_ne ne] at h2
    exact r.fr b od u h1 h2
  pin := r.pin
  lock := fun d od u hm => by
    obtain ⟨k1, k2⟩ := r.lock d od u hm
    exact ⟨by rw [upd_ne (ne_of_none k2 hf)]; exact k1, k2⟩
  kt := fun i b hm hsb => by
    obtain ⟨xs, e⟩ := r.kt i b hm hsb
    have ne : b ≠ a := fun z => by
      subst z
      rw [h] at e; cases e
      exact mu.elim
    exact ⟨xs, by rw [upd_ne ne]; exact e⟩
/-- .. and known again -/
theorem R.restore {ρ0 : Ev} {H0 F0 : Hp} (r0 : R K g os ρ0 σ H0 F0) {vs : List Nat} (r : R K g os ρ (L2.wipe σ vs) H F) (le : FLe F0 F) (hv : ∀ v ∈ vs, os[v]? = some false) (hk : g.kt = []) : R K g os (restE ρ0 vs ρ) σ H F := by
  have out : ∀ {i : Nat}, i ∉ vs → (restE ρ0 vs ρ)[i]? = ρ[i]? := fun h => restE_out h
  have ownOut : ∀ {i : Nat}, os[i]? = some true → i ∉ vs := fun h z => by rw [hv _ z] at h; cases h
  refine ⟨?_, by rw [restE_len]; exact r.leno, r.sub, fun i d h1 h2 => ?_, fun i d h1 h2 => ?_, fun i j d e a hne h1 h2 h3 h4 h5 h6 => ?_, r.frame, r.f0, r.fresh, r.fr, fun i a hm => ?_, r.lock, fun i b hm hs => ?_⟩
  · rw [restE_len, ← r.len, wipe_length]
  · by_cases hi : i ∈ vs
    · obtain ⟨v, e1, e2⟩ := r0.fz i d h1 (restE_in hi h2)
      exact ⟨v, e1, Rep.mono le _ _ e2⟩
    · rw [out hi] at h2
      obtain ⟨v, e1, e2⟩ := r.fz i d h1 h2
      rw [wipe_set_out hi] at e1
      exact ⟨v, e1, e2⟩
  · have hi := ownOut h1
    rw [out hi] at h2
    have := r.ow i d h1 h2
    rwa [wipe_set_out hi] at this
  · have hi := ownOut h1
    have hj := ownOut h2
    rw [out hi] at h3
    rw [out hj] at h4
    exact r.dj i j d e a hne h1 h2 h3 h4 (by rw [wipe_set_out hi]; exact h5) (by rw [wipe_set_out hj]; exact h6)
  · obtain ⟨q1, q2, q3⟩ := r.pin i a hm
    have hi := ownOut q1
    rw [wipe_set_out hi] at q3
    rw [out hi]
    exact ⟨q1, q2, q3⟩
  · rw [hk] at hm; cases hm
end
def compM (vs : List Nat) (t : Tgt) (c : EM Bool) (e : EM D) : List D → Ev → List D → Res (List D × Ev)
  | [], ρ, acc => .ok (acc, ρ)
  | d :: ds, ρ, acc => match t d ρ with
    | .ok ρ1 => (match c ρ1 with
      | .ok (true, ρ2) => (match e ρ2 with
        | .ok (v, ρ3) => if acc.length < sizeLine then compM vs t c e ds (wipeE ρ3 vs) (acc ++ [v]) else .bad
        | _ => .bad)
      | .ok (false, ρ2) => compM vs t c e ds (wipeE ρ2 vs) acc
      | _ => .bad)
    | _ => .bad
def eComp (vs : List Nat) (f : EM (List D)) (t : Tgt) (c : EM Bool) (e : EM D) : EM D := fun ρ => match f ρ with
  | .ok (ds, ρ1) => (match compM vs t c e ds (wipeE ρ1 vs) [] with
    | .ok (acc, ρ2) => .ok (.lst acc, restE ρ1 vs ρ2)
    | _ => .bad)
  | _ => .bad
def eYes : EM Bool := eRet true
theorem wipe_congr {σ σ' : L2.St} (hl : σ'.length = σ.length) {vs : List Nat} (h : ∀ i, i ∉ vs → σ'[i]? = σ[i]?) : L2.wipe σ' vs = L2.wipe σ vs := by
  apply List.ext_getElem?
  intro i
  by_cases hi : i ∈ vs
  · have key : ∀ {τ : L2.St} {ws : List Nat}, i ∈ ws → (L2.wipe τ ws)[i]? = if i < τ.length then some none else none := by
      intro τ ws
      induction ws with
      | nil => intro z; cases z
      | cons w ws ih =>
        intro z
        unfold L2.wipe
        rw [get_set]
        by_cases e : w = i
        · rw [if_pos e, wipe_length, e]
        · rw [if_neg e]
          rcases List.mem_cons.mp z with y | y
          · exact absurd y.symm e
          · exact ih y
    rw [key hi, key hi, hl]
  · rw [wipe_out hi, wipe_out hi, h i hi]
/-- a comprehension's target -/
structure RawT (K : Frag) (os : List Bool) (vs : List Nat) (gt : TG) (t : Tgt) : Prop where
  go : ∀ (g : Gh) (ρ ρ' : Ev) (F H : Hp) (d : D) (v : V) (σ : L2.St) (Q : L2.St → Hp → Prop), g.kt = [] → R K g os ρ σ H F → Rep K F d v → t d ρ = .ok ρ' →
    (∀ σ', (∀ i, i ∉ vs → σ'[i]? = σ[i]?) → σ'.length = σ.length → (∀ i, i ∉ vs → ρ'[i]? = ρ[i]?) → R K g os ρ' σ' H F → Q σ' H) → gt v σ H Q
structure RawTs (K : Frag) (os : List Bool) (vs : List Nat) (gt : TGs) (t : Tgts) : Prop where
  go : ∀ (g : Gh) (ρ ρ' : Ev) (F H : Hp) (ds : List D) (us : List V) (σ : L2.St) (Q : L2.St → Hp → Prop), g.kt = [] → R K g os ρ σ H F → Reps K F ds us → t ds ρ = .ok ρ' →
    (∀ σ', (∀ i, i ∉ vs → σ'[i]? = σ[i]?) → σ'.length = σ.length → (∀ i, i ∉ vs → ρ'[i]? = ρ[i]?) → R K g os ρ' σ' H F → Q σ' H) → gt us σ H Q
section
variable {K : Frag} {os : List Bool} {vs : List Nat}
theorem raw_name {i : Nat} (hi : i ∈ vs) (ho : os[i]? = some false) : RawT K os vs (gName i) (gSet i) := ⟨fun g ρ ρ' F H d v σ Q hk hR hv e q => by
  cases e
  have np : ∀ a, (i, a) ∉ g.pn := fun a z => by
    have := (hR.pin i a z).1
    rw [ho] at this; cases this
  have r2 := hR.put (d := d) (v := v) np (fun z => by rw [hk] at z; cases z) hv
  have eo : os.set i false = os := by
    apply List.ext_getElem?
    intro j
    rw [get_set]
    by_cases hj : i = j
    · subst hj
      rw [if_pos rfl, if_pos (List.getElem?_eq_some_iff.mp ho).1, ho]
    · rw [if_neg hj]
  rw [eo] at r2
  exact q _ (fun j hj => List.getElem?_set_ne (fun z => hj (by rw [← z]; exact hi))) (List.length_set ..) (fun j hj => List.getElem?_set_ne (fun z => hj (by rw [← z]; exact hi))) r2⟩
theorem raws_nil : RawTs K os vs gNil gsNil := ⟨fun g ρ ρ' F H ds us σ Q hk hR hv e q => by
  unfold gsNil at e
  split at e
  · cases e
    exact ⟨hv, q σ (fun _ _ => rfl) rfl (fun _ _ => rfl) hR⟩
  · cases e⟩
theorem raws_cons {gt : TG} {t : Tgt} {gts : TGs} {ts : Tgts} (h1 : RawT K os vs gt t) (h2 : RawTs K os vs gts ts) : RawTs K os vs (gCons gt gts) (gsCons t ts) := ⟨fun g ρ ρ' F H ds us σ Q hk hR hv e q => by
  cases ds with
  | nil => cases e
  | cons d ds =>
    obtain ⟨v, rr, e1, h3, h4⟩ := hv
    subst e1
    have e' : (match t d ρ with
      | .ok ρ' => ts ds ρ'
      | _ => .bad) = .ok ρ' := e
    cases q1 : t d ρ with
    | ok ρ1 =>
      rw [q1] at e'
      refine ⟨v, rr, rfl, h1.go g ρ ρ1 F H d v σ _ hk hR h3 q1 fun σ1 a1 l1 b1 r1 => ?_⟩
      refine h2.go g ρ1 ρ' F H ds rr σ1 Q hk r1 h4 e' fun σ2 a2 l2 b2 r2 => ?_
      exact q σ2 (fun i hi => (a2 i hi).trans (a1 i hi)) (l2.trans l1) (fun i hi => (b2 i hi).trans (b1 i hi)) r2
    | exc x => rw [q1] at e'; cases e'
    | bad => rw [q1] at e'; cases e'⟩
theorem raw_tup {n : Nat} {gts : TGs} {ts : Tgts} (h : RawTs K os vs gts ts) : RawT K os vs (L2.gTup K n gts) (gTupT n ts) := ⟨fun g ρ ρ' F H d v σ Q hk hR hv e q => by
  cases d with
  | tup ds =>
    obtain ⟨a, us, ea, ht, hr⟩ := hv
    have e' : (if ds.length = n then ts ds ρ else .bad) = .ok ρ' := e
    split at e'
    · rename_i hl
      exact ⟨a, us, ea, ht.sq hR.sub, by rw [hr.length]; exact hl, h.go g ρ ρ' F H ds us σ Q hk hR hr e' q⟩
    · cases e'
  | _ => cases e⟩
end
section
variable {K : Frag} {E : XK} {os : List Bool} {vs : List Nat} {t : Tgt} {f : EM (List D)} {c : EM Bool} {e : EM D}
theorem own_free {g : Gh} {ρ ρ' : Ev} {σ : L2.St} {H F H' F' : Hp} {a : Addr} (hn : ∀ (j : Nat) (d : D), os[j]? = some true → ρ[j]? = some (some d) → σ[j]? ≠ some (some (.ref a))) (hH : ∃ o, H a = some o) (k : R K (g.at os ρ σ H F) os ρ' σ H' F') :
    ∀ (j : Nat) (d : D), os[j]? = some true → ρ'[j]? = some (some d) → σ[j]? ≠ some (some (.ref a)) := fun j d h1 h2 h3 => by
  obtain ⟨b, e1, _, _, e4⟩ := k.ow j d h1 h2
  rw [h3] at e1; cases e1
  rcases e4 with ⟨j', hj⟩ | hz
  · obtain ⟨q1, ⟨d', q2⟩, q3⟩ := mem_ownPins.mp hj
    exact hn j' d' q1 q2 q3
  · have hz' : H a = none := hz
    obtain ⟨o, ho⟩ := hH
    rw [ho] at hz'; cases hz'
/-- a comprehension is read -/
theorem comp_read {gt : TG} (hv : ∀ v ∈ vs, os[v]? = some false) (hg : RawT K os vs gt t) {σ : L2.St} {H : Hp} {Q : VK} (h : sO K E os (eComp vs f t c e) σ H Q) : tLc (sI K E os f) gt (sB K E os c) (sD K E os e) vs σ H Q := by
  obtain ⟨g, ρ, F, r, w⟩ := h
  refine ⟨g.at os ρ σ H F, ρ, F, r.rebase, ?_⟩
  unfold eComp at w
  cases q : f ρ with
  | exc x => rw [q] at w; exact w.elim
  | bad => rw [q] at w; exact w
  | ok p =>
  obtain ⟨ds, ρ1⟩ := p
  rw [q] at w
  generalize hgb : g.at os ρ σ H F = gb
  have hkt : gb.kt = [] := by rw [← hgb]; rfl
  intro J H1 F1 hR1 le1 hJ D hD
  refine ⟨fun i m H2 => m = ds.length - i ∧ i ≤ ds.length ∧ ∃ ρ2 F2 acc va, R K gb os ρ2 (L2.wipe σ vs) H2 F2 ∧ FLe F1 F2 ∧ F2 D = none ∧ H2 D = some (.lst va) ∧ Reps K F2 acc va ∧ (∀ (j : Nat) (d : DL.D), os[j]? = some true → ρ2[j]? = some (some d) → (L2.wipe σ vs)[j]? ≠ some (some (.ref D))) ∧
    WG K E os g σ F (rO K os) Q (match compM vs t c e (ds.drop i) ρ2 acc with
      | .ok (acc, ρ2) => .ok (.lst acc, restE ρ1 vs ρ2)
      | _ => .bad), ⟨ds.length, by simp, Nat.zero_le _, wipeE ρ1 vs, F1, [], [], (hR1.laid hD).wipe hv, FLe.refl, hR1.none_of hD, upd_same, rfl, fun j d h1 h2 h3 => ?_, w⟩, ?_⟩
  · have hj : j ∉ vs := fun z => by rw [hv j z] at h1; cases h1
    rw [wipeE_out hj] at h2
    rw [wipe_set_out hj] at h3
    obtain ⟨a, p1, _, p3, _⟩ := hR1.ow j d h1 h2
    rw [h3] at p1; cases p1
    obtain ⟨o, p4, _⟩ := p3.there
    rw [hD] at p4; cases p4
  · rintro i m H2 ⟨rfl, hi, ρ2, F2, acc, va, hR2, le2, hFD, hHD, hacc, hnD, w2⟩
    have hD0 : gb.H0 D = none := hR1.h0_none hD
    obtain ⟨hJ1, hJ2⟩ := hJ os ρ2 (L2.wipe σ vs) H2 F2 i hR2 le2
    by_cases hlt : i < ds.length
    · right
      obtain ⟨go, hy⟩ := hJ1 ds[i] (List.getElem?_eq_getElem hlt)
      have hd : ds.drop i = ds[i] :: ds.drop (i + 1) := List.drop_eq_getElem_cons hlt
      rw [hd] at w2
      refine ⟨go, fun H' => ∃ ρ3 F3 acc va, R K gb os ρ3 (L2.wipe σ vs) H' F3 ∧ FLe F1 F3 ∧ F3 D = none ∧ H' D = some (.lst va) ∧ Reps K F3 acc va ∧ (∀ (j : Nat) (d : DL.D), os[j]? = some true → ρ3[j]? = some (some d) → (L2.wipe σ vs)[j]? ≠ some (some (.ref D))) ∧
        WG K E os g σ F (rO K os) Q (match compM vs t c e (ds.drop (i + 1)) ρ3 acc with
          | .ok (acc, ρ2) => .ok (.lst acc, restE ρ1 vs ρ2)
          | _ => .bad), fun H' hN => ⟨ds.length - (i + 1), by omega, rfl, hlt, hN⟩, fun x H' hyld => ?_⟩
      obtain ⟨F3, hR3, le3, hx, kp⟩ := hy x H' hyld
      have hHD3 : H' D = some (.lst va) := kp.1 _ _ hHD
      have hFD3 : F3 D = none := by
        cases z : F3 D with
        | none => rfl
        | some u =>
          rcases kp.2 D u z with y | y | ⟨xs, _, y⟩
          · rw [hFD] at y; cases y
          · rw [hHD] at y; cases y
          · rw [hHD] at y; cases y
      unfold compM at w2
      cases q1 : t ds[i] ρ2 with
      | exc x => rw [q1] at w2; exact w2.elim
      | bad => rw [q1] at w2; exact w2.elim
      | ok ρ3 =>
      rw [q1] at w2
      dsimp only at w2
      refine hg.go gb ρ2 ρ3 F3 H' ds[i] x (L2.wipe σ vs) _ hkt hR3 hx q1 fun σ1 a1 l1 b1 hR4 => ?_
      have ew : L2.wipe σ1 vs = L2.wipe σ vs := by
        refine wipe_congr (by rw [l1, wipe_length]) fun j hj => ?_
        rw [a1 j hj, wipe_out hj]
      have hn4 : ∀ (j : Nat) (d : DL.D), os[j]? = some true → ρ3[j]? = some (some d) → σ1[j]? ≠ some (some (.ref D)) := fun j d h1 h2 h3 => by
        have hj : j ∉ vs := fun z => by rw [hv j z] at h1; cases h1
        rw [b1 j hj] at h2
        rw [a1 j hj] at h3
        exact hnD j d h1 h2 h3
      refine ⟨ew, gb.at os ρ3 σ1 H' F3, ρ3, F3, hR4.rebase, ?_⟩
      cases q2 : c ρ3 with
      | exc x => rw [q2] at w2; exact w2.elim
      | bad => rw [q2] at w2; exact w2.elim
      | ok pr =>
      obtain ⟨k, ρ4⟩ := pr
      rw [q2] at w2
      intro k' H4 F4 k5 le4 ek
      have ek' : k' = k := ek
      subst ek'
      have hR5 := hR4.unbase k5
      have hHD4 := hR4.keeps k5 hHD3 trivial hn4
      have hFD4 := hR4.keepsF k5 hHD3 trivial hFD3
      have hn5 := own_free hn4 ⟨_, hHD3⟩ k5
      cases k' with
      | false =>
        rw [if_neg Bool.false_ne_true]
        refine ⟨wipeE ρ4 vs, F4, acc, va, by rw [← ew]; exact hR5.wipe hv, le2.trans (le3.trans le4), hFD4, hHD4, Reps.mono (le3.trans le4) _ _ hacc, fun j d h1 h2 h3 => ?_, w2⟩
        have hj : j ∉ vs := fun z => by rw [hv j z] at h1; cases h1
        rw [wipeE_out hj] at h2
        rw [← ew, wipe_out hj] at h3
        exact hn5 j d h1 h2 h3
      | true =>
        rw [if_pos rfl]
        refine ⟨gb.at os ρ4 σ1 H4 F4, ρ4, F4, hR5.rebase, ?_⟩
        dsimp only at w2
        cases q3 : e ρ4 with
        | exc x => rw [q3] at w2; exact w2.elim
        | bad => rw [q3] at w2; exact w2.elim
        | ok pr =>
        obtain ⟨v, ρ5⟩ := pr
        rw [q3] at w2
        intro y H5 F5 k6 le5 hyv
        have hR6 := hR5.unbase k6
        have hHD5 := hR5.keeps k6 hHD4 trivial hn5
        have hFD5 := hR5.keepsF k6 hHD4 trivial hFD4
        have hn6 := own_free hn5 ⟨_, hHD4⟩ k6
        dsimp only at w2
        by_cases hz : acc.length < sizeLine
        · rw [if_pos hz] at w2
          have hacc5 := Reps.mono (le3.trans (le4.trans le5)) _ _ hacc
          refine ⟨va, hHD5, by rw [hacc.length]; exact hz, wipeE ρ5 vs, F5, acc ++ [v], va ++ [y], ?_, le2.trans (le3.trans (le4.trans le5)), hFD5, upd_same, hacc5.append (.one hyv), fun j d h1 h2 h3 => ?_, w2⟩
          · rw [← ew]
            exact (hR6.touch hFD5 hD0 hHD5 trivial hn6).wipe hv
          · have hj : j ∉ vs := fun z => by rw [hv j z] at h1; cases h1
            rw [wipeE_out hj] at h2
            rw [← ew, wipe_out hj] at h3
            exact hn6 j d h1 h2 h3
        · rw [if_neg hz] at w2
          exact w2.elim
    · left
      have ei : i = ds.length := by omega
      subst ei
      refine ⟨hJ2 rfl, ?_⟩
      rw [List.drop_length] at w2
      have w3 : WG K E os g σ F (rO K os) Q (.ok (.lst acc, restE ρ1 vs ρ2)) := w2
      have hRf : R K gb os (restE ρ1 vs ρ2) σ H2 F2 := R.restore hR1 hR2 le2 hv hkt
      have hnf : ∀ (j : Nat) (d : DL.D), os[j]? = some true → (restE ρ1 vs ρ2)[j]? = some (some d) → σ[j]? ≠ some (some (.ref D)) := fun j d h1 h2 h3 => by
        have hj : j ∉ vs := fun z => by rw [hv j z] at h1; cases h1
        rw [restE_out hj] at h2
        exact hnD j d h1 h2 (by rw [wipe_set_out hj]; exact h3)
      subst hgb
      exact w3 (.ref D) H2 F2 (r.unbase hRf) (le1.trans le2) ⟨D, rfl, hFD, ⟨va, hHD, hacc⟩, r.h0_none hD0, hnf⟩
end
section
variable {X : Cx} {E : XK} {os : List Bool} {tg iter elt : Expr} {ifs : List Expr} {pos : Pos} {scope : Scope} {own : List (Str × Nat)} {t : Tgt} {f : EM (List D)} {c : EM Bool} {e : EM D} {gt : TG}
theorem do_lc (hc : X.calm = true) (hN : X.N.Nodup) (hi : PI X tg iter (sI X.K E os f)) (ok : BlkOk X.N X.env.scope scope own)
    (hg : ∀ (s : Shared) (H : Hp) (C : Addr) (cl : List (Str × Addr)) (fp : List Addr), PG (X.blk s H scope (compEnvC scope cl C X.env) fp) tg gt)
    (ht : ∀ (s : Shared) (H : Hp) (C : Addr) (cl : List (Str × Addr)) (fp : List Addr), PTs (X.blk s H scope (compEnvC scope cl C X.env) fp) ifs (sB X.K E os c))
    (he : ∀ (s : Shared) (H : Hp) (C : Addr) (cl : List (Str × Addr)) (fp : List Addr), PE (X.blk s H scope (compEnvC scope cl C X.env) fp) elt (sD X.K E os e))
    (hr : RawT X.K os (own.map (·.2)) gt t) (hv : ∀ v ∈ own.map (·.2), os[v]? = some false) (hs : ∀ x, foldedSetIterable iter X.env x = pure x := by intro _; rfl) :
    PE X (.ListComp elt [⟨tg, iter, ifs, 0⟩] scope pos) (sO X.K E os (eComp (own.map (·.2)) f t c e)) := PE.weak (pe_lc hc hN hi ok hg ht he hs) fun σ H Q h => comp_read hv hr h
end
end DL
/-! DL8: dicts, subscripts, stores, methods, built-ins. -/
namespace DL
open PySem PySem.Spec L2
set_option autoImplicit false
/-! ### keys -/
def kEq1 : D → D → Bool
  | .int i, .int j => decide (i = j)
  | .str x, .str y => decide (x = y)
  | _, _ => false
def kEqs : List D → List D → Bool
  | [], [] => true
  | x :: xs, y :: ys => kEq1 x y && kEqs xs ys
  | _, _ => false
def kEq : D → D → Bool
  | .tup xs, .tup ys => kEqs xs ys
  | x, y => kEq1 x y
def asKey : D → Option Key
  | .int i => some (.inl i)
  | .str x => some (.inr x)
  | _ => none
def asKeys : List D → Option (List Key)
  | [] => some []
  | d :: ds => match asKey d, asKeys ds with
    | some k, some ks => some (k :: ks)
    | _, _ => none
theorem asKey_eq {d : D} {k : Key} (h : asKey d = some k) : d = kD k := by
  cases d <;> cases h <;> rfl
theorem asKeys_eq : ∀ {ds : List D} {ks : List Key}, asKeys ds = some ks → ds = ks.map kD
  | [], ks, h => by cases h; rfl
  | d :: ds, ks, h => by
    have h' : (match asKey d, asKeys ds with
      | some k, some ks => some (k :: ks)
      | _, _ => none) = some ks := h
    cases q1 : asKey d with
    | none => rw [q1] at h'; cases h'
    | some k =>
      cases q2 : asKeys ds with
      | none => rw [q1, q2] at h'; cases h'
      | some r =>
        rw [q1, q2] at h'
        cases h'
        rw [List.map_cons, ← asKey_eq q1, ← asKeys_eq q2]
theorem kEq1_kD (a b : Key) : kEq1 (kD a) (kD b) = decide (a = b) := by
  cases a <;> cases b <;> simp [kD, kEq1]
theorem kEq_kD (a b : Key) : kEq (kD a) (kD b) = decide (a = b) := by
  rw [← kEq1_kD]
  cases a <;> cases b <;> rfl
theorem kEqs_kD : ∀ a b : List Key, kEqs (a.map kD) (b.map kD) = decide (a = b)
  | [], [] => rfl
  | [], _ :: _ => rfl
  | _ :: _, [] => rfl
  | x :: xs, y :: ys => by
    show (kEq1 (kD x) (kD y) && kEqs (xs.map kD) (ys.map kD)) = _
    rw [kEq1_kD, kEqs_kD xs ys]
    by_cases h1 : x = y
    · by_cases h2 : xs = ys
      · simp [h1, h2]
      · simp [h1, h2]
    · simp [h1]
theorem kEq_tup (a b : List Key) : kEq (.tup (a.map kD)) (.tup (b.map kD)) = decide (a = b) := kEqs_kD a b
/-! ### dicts as lists of pairs -/
def lookD : List (D × D) → D → Option D
  | [], _ => none
  | (k, v) :: r, q => if kEq k q = true then some v else lookD r q
def hasD (kvs : List (D × D)) (q : D) : Bool := kvs.any fun p => kEq p.1 q
def putD (kvs : List (D × D)) (q x : D) : List (D × D) := if hasD kvs q = true then kvs.map (fun p => if kEq p.1 q = true then (p.1, x) else p) else kvs ++ [(q, x)]
def dropD (kvs : List (D × D)) (q : D) : List (D × D) := kvs.filter fun p => !kEq p.1 q
section
variable {K : Frag} {F : Hp}
theorem RepK.look : ∀ {kvs : List (D × D)} {l : List (Key × V)} {k : Key}, RepK K F kvs l → (lookD kvs (kD k) = none ∧ valV l k = none) ∨ ∃ d v, lookD kvs (kD k) = some d ∧ valV l k = some v ∧ Rep K F d v
  | [], l, k, h => by
    cases (show l = [] from h)
    exact .inl ⟨rfl, rfl⟩
  | (q, d) :: r, l, k, h => by
    obtain ⟨k', v, m, e1, e2, h3, h4⟩ := h
    subst e1 e2
    by_cases e : k' = k
    · right
      refine ⟨d, v, ?_, valV_pos e, h3⟩
      unfold lookD
      rw [if_pos (by rw [kEq_kD]; exact decide_eq_true e)]
    · have hn : ¬ kEq (kD k') (kD k) = true := by rw [kEq_kD]; simpa using e
      have e1 : lookD ((kD k', d) :: r) (kD k) = lookD r (kD k) := if_neg hn
      rw [e1, valV_neg (p := (k', v)) e]
      exact RepK.look h4
theorem RepT.look : ∀ {kvs : List (D × D)} {l : List (List Key × V)} {k : List Key}, RepT K F kvs l → (lookD kvs (.tup (k.map kD)) = none ∧ valV l k = none) ∨ ∃ d v, lookD kvs (.tup (k.map kD)) = some d ∧ valV l k = some v ∧ Rep K F d v
  | [], l, k, h => by
    cases (show l = [] from h)
    exact .inl ⟨rfl, rfl⟩
  | (q, d) :: r, l, k, h => by
    obtain ⟨k', v, m, e1, e2, h3, h4⟩ := h
    subst e1 e2
    by_cases e : k' = k
    · right
      refine ⟨d, v, ?_, valV_pos e, h3⟩
      unfold lookD
      rw [if_pos (by rw [kEq_tup]; exact decide_eq_true e)]
    · have hn : ¬ kEq (.tup (k'.map kD)) (.tup (k.map kD)) = true := by rw [kEq_tup]; simpa using e
      have e1 : lookD ((.tup (k'.map kD), d) :: r) (.tup (k.map kD)) = lookD r (.tup (k.map kD)) := if_neg hn
      rw [e1, valV_neg (p := (k', v)) e]
      exact RepT.look h4
theorem RepK.has : ∀ {kvs : List (D × D)} {l : List (Key × V)} {k : Key}, RepK K F kvs l → hasD kvs (kD k) = l.any fun p => decide (p.1 = k)
  | [], l, k, h => by
    cases (show l = [] from h)
    rfl
  | (q, d) :: r, l, k, h => by
    obtain ⟨k', v, m, e1, e2, h3, h4⟩ := h
    subst e1 e2
    show (kEq (kD k') (kD k) || hasD r (kD k)) = (decide (k' = k) || m.any fun p => decide (p.1 = k))
    rw [kEq_kD, RepK.has h4]
theorem RepT.has : ∀ {kvs : List (D × D)} {l : List (List Key × V)} {k : List Key}, RepT K F kvs l → hasD kvs (.tup (k.map kD)) = l.any fun p => decide (p.1 = k)
  | [], l, k, h => by
    cases (show l = [] from h)
    rfl
  | (q, d) :: r, l, k, h => by
    obtain ⟨k', v, m, e1, e2, h3, h4⟩ := h
    subst e1 e2
    show (kEq (.tup (k'.map kD)) (.tup (k.map kD)) || hasD r (.tup (k.map kD))) = (decide (k' = k) || m.any fun p => decide (p.1 = k))
    rw [kEq_tup, RepT.has h4]
theorem RepK.append : ∀ {kvs : List (D × D)} {l : List (Key × V)} {k : Key} {d : D} {x : V}, RepK K F kvs l → Rep K F d x → RepK K F (kvs ++ [(kD k, d)]) (l ++ [(k, x)])
  | [], l, k, d, x, h, hd => by
    cases (show l = [] from h)
    exact ⟨k, x, [], rfl, rfl, hd, rfl⟩
  | (q, e) :: r, l, k, d, x, h, hd => by
    obtain ⟨k', v, m, e1, e2, h3, h4⟩ := h
    subst e1 e2
    exact ⟨k', v, m ++ [(k, x)], rfl, rfl, h3, RepK.append h4 hd⟩
theorem RepT.append : ∀ {kvs : List (D × D)} {l : List (List Key × V)} {k : List Key} {d : D} {x : V}, RepT K F kvs l → Rep K F d x → RepT K F (kvs ++ [(.tup (k.map kD), d)]) (l ++ [(k, x)])
  | [], l, k, d, x, h, hd => by
    cases (show l = [] from h)
    exact ⟨k, x, [], rfl, rfl, hd, rfl⟩
  | (q, e) :: r, l, k, d, x, h, hd => by
    obtain ⟨k', v, m, e1, e2, h3, h4⟩ := h
    subst e1 e2
    exact ⟨k', v, m ++ [(k, x)], rfl, rfl, h3, RepT.append h4 hd⟩
theorem RepK.mapPut : ∀ {kvs : List (D × D)} {l : List (Key × V)} {k : Key} {d : D} {x : V}, RepK K F kvs l → Rep K F d x → RepK K F (kvs.map fun p => if kEq p.1 (kD k) = true then (p.1, d) else p) (l.map fun p => if p.1 = k then (p.1, x) else p)
  | [], l, k, d, x, h, hd => by
    cases (show l = [] from h)
    rfl
  | (q, e) :: r, l, k, d, x, h, hd => by
    obtain ⟨k', v, m, e1, e2, h3, h4⟩ := h
    subst e1 e2
    rw [List.map_cons, List.map_cons]
    have ih := RepK.mapPut (k := k) h4 hd
    by_cases e' : k' = k
    · rw [if_pos (by rw [kEq_kD]; exact decide_eq_true e'), if_pos e']
      exact ⟨k', x, _, rfl, rfl, hd, ih⟩
    · rw [if_neg (by rw [kEq_kD]; simpa using e'), if_neg e']
      exact ⟨k', v, _, rfl, rfl, h3, ih⟩
theorem RepT.mapPut : ∀ {kvs : List (D × D)} {l : List (List Key × V)} {k : List Key} {d : D} {x : V}, RepT K F kvs l → Rep K F d x → RepT K F (kvs.map fun p => if kEq p.1 (.tup (k.map kD)) = true then (p.1, d) else p) (l.map fun p => if p.1 = k then (p.1, x) else p)
  | [], l, k, d, x, h, hd => by
    cases (show l = [] from h)
    rfl
  | (q, e) :: r, l, k, d, x, h, hd => by
    obtain ⟨k', v, m, e1, e2, h3, h4⟩ := h
    subst e1 e2
    rw [List.map_cons, List.map_cons]
    have ih := RepT.mapPut (k := k) h4 hd
    by_cases e' : k' = k
    · rw [if_pos (by rw [kEq_tup]; exact decide_eq_true e'), if_pos e']
      exact ⟨k', x, _, rfl, rfl, hd, ih⟩
    · rw [if_neg (by rw [kEq_tup]; simpa using e'), if_neg e']
      exact ⟨k', v, _, rfl, rfl, h3, ih⟩
theorem RepK.put {kvs : List (D × D)} {l : List (Key × V)} {k : Key} {d : D} {x : V} (h : RepK K F kvs l) (hd : Rep K F d x) : RepK K F (putD kvs (kD k) d) (putK l k x) := by
  unfold putD putK
  rw [h.has]
  split
  · exact h.mapPut hd
  · exact h.append hd
theorem RepT.put {kvs : List (D × D)} {l : List (List Key × V)} {k : List Key} {d : D} {x : V} (h : RepT K F kvs l) (hd : Rep K F d x) : RepT K F (putD kvs (.tup (k.map kD)) d) (putK l k x) := by
  unfold putD putK
  rw [h.has]
  split
  · exact h.mapPut hd
  · exact h.append hd
theorem RepK.drop : ∀ {kvs : List (D × D)} {l : List (Key × V)} {k : Key}, RepK K F kvs l → RepK K F (dropD kvs (kD k)) (dropK l k)
  | [], l, k, h => by
    cases (show l = [] from h)
    rfl
  | (q, e) :: r, l, k, h => by
    obtain ⟨k', v, m, e1, e2, h3, h4⟩ := h
    subst e1 e2
    have ih := RepK.drop (k := k) h4
    unfold dropD dropK at ih ⊢
    rw [List.filter_cons, List.filter_cons]
    by_cases e' : k' = k
    · rw [if_neg (by rw [kEq_kD, decide_eq_true e']; simp), if_neg (by simp [e'])]
      exact ih
    · rw [if_pos (by rw [kEq_kD, decide_eq_false e']; rfl), if_pos (by simp [e'])]
      exact ⟨k', v, _, rfl, rfl, h3, ih⟩
end
/-! ### subscripts -/
def ixD : D → D → Res D
  | .lst xs, .int i => match atI xs i with
    | some d => .ok d
    | none => .bad
  | .tup xs, .int i => match atI xs i with
    | some d => .ok d
    | none => .bad
  | .str z, .int i => if z.length ≤ sizeLine then (match atI z.cps.toList i with
    | some c => .ok (.str ⟨#[c]⟩)
    | none => .bad) else .bad
  | .dic false kvs, .tup _ => .bad
  | .dic false kvs, k => match asKey k with
    | some _ => (match lookD kvs k with
      | some d => .ok d
      | none => .bad)
    | none => .bad
  | .dic true kvs, .tup ks => match asKeys ks with
    | some _ => (match lookD kvs (.tup ks) with
      | some d => .ok d
      | none => .bad)
    | none => .bad
  | _, _ => .bad
theorem ixD_nx (x y : D) : Noex (ixD x y) := fun e h => by
  unfold ixD at h
  split at h <;> first | cases h | (split at h <;> first | cases h | (split at h <;> first | cases h | (split at h <;> cases h)))
/-- what a dict holds, its key perhaps a constant of the module -/
def DGetX (K : Frag) (H : Hp) (a : Addr) (y : V) (r : Option V) : Prop :=
  (∃ kvs k, Rd H a (.dK kvs) ∧ y = kV k ∧ r = valV kvs k) ∨ ∃ kvs k b, Rd H a (.dT kvs) ∧ y = .ref b ∧ SqT K H b (k.map kV) ∧ r = valV kvs k
section
variable {X : Cx} {pins : List (Addr × Obj)} {σ : L2.St} {H : Hp} {s : Shared} {a : Addr} {y v : V} {u r : Value} {o : Option V} {A : Around} {E : Value → Shared → Prop}
theorem key_ofX {b : Addr} {ks : List Key} (I : Inv X pins σ H s) (h : SqT X.K H b (ks.map kV)) : (tupleKind (mixKind X.prog X.w)).is s.heap ks b := by
  obtain ⟨its, rv, ⟨o, h1, h2, n, h3⟩, _⟩ := I.tuple h
  exact ⟨o, its.toArray, n, h1, h2, h3, by simpa using items_are rv⟩
theorem d_getItemX {Q : Value → Shared → Prop} (hu : A.units + 1 < cLine) (I : Inv X pins σ H s) (g : DGetX X.K H a y (some v)) (ry : RelV y u) (h : ∀ w' s', Inv X pins σ H s' → RelV v w' → Q w' s') :
    wpAny (model X.prog X.w) A (getItem (.ref a) u) Q E s := by
  rcases g with ⟨kvs, k, e, ey, l⟩ | ⟨kvs, k, b, e, ey, eb, l⟩
  · exact d_getItem hu I (.inl ⟨kvs, k, e, ey, l⟩) ry h
  · subst ey
    cases (show u = Value.ref b from ry)
    obtain ⟨z, hd, xs, rel, dd⟩ := dt_rd I.hok e
    obtain ⟨w', hw, rw'⟩ := RelO.some_of (v := v) (o := (atKey xs k).map (·.2)) (by rw [l]; exact rel.val k)
    obtain ⟨p, hp, hp2⟩ := Option.map_eq_some_iff.mp hw
    refine wpAny_getItem_heap (tupleKind_room_in1 hu) (key_ofX I eb) dd hp ?_
    rw [hp2]
    exact h w' _ (I.tok _) rw'
theorem d_inX {Q : Value → Shared → Prop} (hu : A.units + 1 < cLine) (I : Inv X pins σ H s) (g : DGetX X.K H a y o) (ry : RelV y u) (h : ∀ s', Inv X pins σ H s' → Q (.bool o.isSome) s') :
    wpAny (model X.prog X.w) A (compareOp .In u (.ref a)) Q E s := by
  rcases g with ⟨kvs, k, e, ey, l⟩ | ⟨kvs, k, b, e, ey, eb, l⟩
  · exact d_in hu I (.inl ⟨kvs, k, e, ey, l⟩) ry h
  · subst ey
    cases (show u = Value.ref b from ry)
    obtain ⟨z, hd, xs, rel, dd⟩ := dt_rd I.hok e
    refine wpAny_in_heap (tupleKind_room_in1 hu) (key_ofX I eb) hd dd ?_
    have q := (rel.val k).isSome_eq
    rw [Option.isSome_map] at q
    rw [← q, ← l]
    exact h _ (I.tok _)
theorem d_notInX {Q : Value → Shared → Prop} (hu : A.units + 1 < cLine) (I : Inv X pins σ H s) (g : DGetX X.K H a y o) (ry : RelV y u) (h : ∀ s', Inv X pins σ H s' → Q (.bool (!o.isSome)) s') :
    wpAny (model X.prog X.w) A (compareOp .NotIn u (.ref a)) Q E s := by
  rcases g with ⟨kvs, k, e, ey, l⟩ | ⟨kvs, k, b, e, ey, eb, l⟩
  · exact d_notIn hu I (.inl ⟨kvs, k, e, ey, l⟩) ry h
  · subst ey
    cases (show u = Value.ref b from ry)
    obtain ⟨z, hd, xs, rel, dd⟩ := dt_rd I.hok e
    refine PyProof.Rows.wpAny_notIn_heap (tupleKind_room_in1 hu) (key_ofX I eb) hd dd ?_
    have q := (rel.val k).isSome_eq
    rw [Option.isSome_map] at q
    rw [← q, ← l]
    exact h _ (I.tok _)
theorem dgx_typeIs (I : Inv X pins σ H s) (g : DGetX X.K H a y o) : s.TypeIs (.ref a) "dict" := by
  rcases g with ⟨kvs, k, e, _, _⟩ | ⟨kvs, k, b, e, _, _, _⟩
  · obtain ⟨_, _, vs, _, dd⟩ := dk_rd I.hok e
    exact dd.typeIs
  · obtain ⟨_, _, xs, _, dd⟩ := dt_rd I.hok e
    exact dd.typeIs
end
section
variable {X : Cx}
def rIxD (K : Frag) : R2 := fun x y H Q => ∃ a v, x = .ref a ∧ DGetX K H a y (some v) ∧ Q v H
theorem ix_dict (hu : X.A.units + 1 < cLine) : IxR X (rIxD X.K) := by
  intro value slice pins s σ H x y v u Q I rx ry h hs
  obtain ⟨a, z, rfl, g, q⟩ := h
  cases rx
  have hT := dgx_typeIs I g
  unfold PyProof.Rows.subscriptTail
  refine wpAny_bind ?_
  rw [getitemInPython_of_ne hT.not_modules]
  refine wpAny_bind (wpAny_specialOf hT PySem.F.slot_dict_getitem.lookup ?_)
  have fin : wpAny (model X.prog X.w) X.A (subscripted slice false (.ref a) u) (fun r s₃ => wpAny (model X.prog X.w) X.A (letTemporaryGo value (.ref a) r >>= fun _ => pure r) (EP X pins σ Q) X.xe s₃) X.xe s := by
    rw [hs]
    exact wpAny_operating (d_getItemX hu I g ry fun w' s' I' r' => wpAny_bind (wpAny_letTemporaryGo (wpAny_pure ⟨z, H, I', r', q⟩)))
  first
    | exact wpAny_pure (wpAny_bind fin)
    | exact wpAny_bind (wpAny_pure (wpAny_bind fin))
    | exact wpAny_bind fin
abbrev rIx4 (K : Frag) : R2 := fun x y H Q => (rIxL K x y H Q ∨ rIxT K x y H Q) ∨ rIxS x y H Q ∨ rIxD K x y H Q
theorem ix_all (hu : X.A.units + 1 < cLine) : IxR X (rIx4 X.K) := IxR.or (IxR.or ix_list ix_tup) (IxR.or ix_str (ix_dict hu))
end
section
variable {K : Frag} {os : List Bool}
theorem Reps.atI {F : Hp} {ds : List D} {vs : List V} {i : Int} {d : D} (r : Reps K F ds vs) (h : L2.atI ds i = some d) : ∃ v, L2.atI vs i = some v ∧ Rep K F d v := by
  unfold L2.atI at h ⊢
  rw [r.length]
  cases q : ixN ds.length i with
  | none => rw [q] at h; cases h
  | some j =>
    rw [q] at h
    exact r.get h
theorem key_view {F H : Hp} {d : D} {k : Key} {v : V} (e : asKey d = some k) (h : View K F H d v) : v = kV k := by
  cases d with
  | int i => cases e; exact h
  | str x => cases e; exact h
  | _ => cases e
theorem reps_kV : ∀ {F : Hp} {ks : List Key} {vs : List V}, Reps K F (ks.map kD) vs → vs = ks.map kV
  | F, [], vs, h => h
  | F, k :: ks, vs, h => by
    obtain ⟨v, r, e, h1, h2⟩ := h
    rw [e, reps_kV h2]
    have : v = kV k := by cases k <;> exact h1
    rw [this]; rfl
theorem dgetK {F H : Hp} {kvs : List (D × D)} {q : D} {k : Key} {x y : V} (vx : View K F H (.dic false kvs) x) (e : asKey q = some k) (vy : View K F H q y) :
    ∃ a, x = .ref a ∧ ((lookD kvs q = none ∧ DGetX K H a y none) ∨ ∃ d v, lookD kvs q = some d ∧ DGetX K H a y (some v) ∧ Rep K F d v) := by
  obtain ⟨a, ea, h⟩ := vx
  rcases h with ⟨_, l, hl, hk⟩ | ⟨h, _⟩
  · refine ⟨a, ea, ?_⟩
    have ey := key_view e vy
    have eq := asKey_eq e
    subst eq
    rcases hk.look (k := k) with ⟨h1, h2⟩ | ⟨d, v, h1, h2, h3⟩
    · exact .inl ⟨h1, .inl ⟨l, k, hl, ey, h2.symm⟩⟩
    · exact .inr ⟨d, v, h1, .inl ⟨l, k, hl, ey, h2.symm⟩, h3⟩
  · cases h
theorem dgetT {F H : Hp} {kvs : List (D × D)} {ds : List D} {ks : List Key} {x y : V} (vx : View K F H (.dic true kvs) x) (e : asKeys ds = some ks) (vy : View K F H (.tup ds) y) :
    ∃ a, x = .ref a ∧ ((lookD kvs (.tup ds) = none ∧ DGetX K H a y none) ∨ ∃ d v, lookD kvs (.tup ds) = some d ∧ DGetX K H a y (some v) ∧ Rep K F d v) := by
  obtain ⟨a, ea, h⟩ := vx
  rcases h with ⟨h, _⟩ | ⟨_, l, hl, hk⟩
  · cases h
  · refine ⟨a, ea, ?_⟩
    have eq := asKeys_eq e
    subst eq
    obtain ⟨b, vs, eb, hb, hr⟩ := vy
    have ev := reps_kV hr
    subst ev
    rcases hk.look (k := ks) with ⟨h1, h2⟩ | ⟨d, v, h1, h2, h3⟩
    · exact .inl ⟨h1, .inr ⟨l, ks, b, hl, eb, hb, h2.symm⟩⟩
    · exact .inr ⟨d, v, h1, .inr ⟨l, ks, b, hl, eb, hb, h2.symm⟩, h3⟩
theorem ixD_ok : Op2 K os (rIx4 K) ixD (rD K) := by
  intro g ρ σ H F x y dx dy d Q hR vx vy e q
  cases dx with
  | lst xs =>
    cases dy with
    | int i =>
      have e' : (match atI xs i with
        | some d => .ok d
        | none => .bad) = Res.ok d := e
      cases z : atI xs i with
      | none => rw [z] at e'; cases e'
      | some d0 =>
        rw [z] at e'
        cases e'
        obtain ⟨a, vs, ea, ha, ra⟩ := vx
        obtain ⟨v, hv, rv⟩ := ra.atI z
        exact .inl (.inl ⟨a, vs, i, v, ea, vy, ha, hv, q v H F hR FLe.refl rv⟩)
    | _ => cases e
  | tup xs =>
    cases dy with
    | int i =>
      have e' : (match atI xs i with
        | some d => .ok d
        | none => .bad) = Res.ok d := e
      cases z : atI xs i with
      | none => rw [z] at e'; cases e'
      | some d0 =>
        rw [z] at e'
        cases e'
        obtain ⟨a, vs, ea, ha, ra⟩ := vx
        obtain ⟨v, hv, rv⟩ := ra.atI z
        exact .inl (.inr ⟨a, vs, i, v, ea, vy, ha, hv, q v H F hR FLe.refl rv⟩)
    | _ => cases e
  | str z =>
    cases dy with
    | int i =>
      have e' : (if z.length ≤ sizeLine then (match atI z.cps.toList i with
        | some c => .ok (.str ⟨#[c]⟩)
        | none => .bad) else .bad) = Res.ok d := e
      split at e'
      · rename_i hz
        cases w : atI z.cps.toList i with
        | none => rw [w] at e'; cases e'
        | some c =>
          rw [w] at e'
          cases e'
          exact .inr (.inl ⟨z, i, c, vx, vy, hz, w, q _ H F hR FLe.refl rfl⟩)
      · cases e'
    | _ => cases e
  | dic t kvs =>
    cases t with
    | false =>
      have key : ∀ k, asKey dy = some k → (match lookD kvs dy with
        | some d => Res.ok d
        | none => .bad) = .ok d → rIx4 K x y H Q := fun k hk e' => by
        obtain ⟨a, ea, h⟩ := dgetK vx hk vy
        rcases h with ⟨h1, _⟩ | ⟨d', v, h1, h2, h3⟩
        · rw [h1] at e'; cases e'
        · rw [h1] at e'
          cases e'
          exact .inr (.inr ⟨a, v, ea, h2, q v H F hR FLe.refl h3⟩)
      cases dy with
      | int i => exact key (.inl i) rfl e
      | str i => exact key (.inr i) rfl e
      | _ => cases e
    | true =>
      cases dy with
      | tup ds =>
        have e' : (match asKeys ds with
          | some _ => (match lookD kvs (.tup ds) with
            | some d => .ok d
            | none => .bad)
          | none => .bad) = Res.ok d := e
        cases hk : asKeys ds with
        | none => rw [hk] at e'; cases e'
        | some ks =>
          rw [hk] at e'
          obtain ⟨a, ea, h⟩ := dgetT vx hk vy
          rcases h with ⟨h1, _⟩ | ⟨d', v, h1, h2, h3⟩
          · rw [h1] at e'; cases e'
          · rw [h1] at e'
            cases e'
            exact .inr (.inr ⟨a, v, ea, h2, q v H F hR FLe.refl h3⟩)
      | _ => cases e
  | _ => cases e
end
section
variable {X : Cx} {E : XK} {os : List Bool} {a b : Expr} {pos : Pos} {fa fb : EM D}
theorem de_ix (hu : X.A.units + 1 < cLine) (hs : PlainIx b) (ha : PE X a (sD X.K E os fa)) (hb : PE X b (sV X.K E os fb)) : PE X (.Subscript a b pos) (sD X.K E os (e2 ixD fa fb)) := PE.weak (pe_ix (ix_all hu) ha hb hs) fun σ H Q h => bin_read ixD_ok ixD_nx h
theorem de_ixN {i : Nat} (hu : X.A.units + 1 < cLine) (hs : PlainIx b) (ha : PE X a (tVar i)) (hb : PE X b (sV X.K E os fb)) : PE X (.Subscript a b pos) (sD X.K E os (e2N ixD i fb)) := PE.weak (pe_ix (ix_all hu) ha hb hs) fun σ H Q h => bin_readN ixD_ok ixD_nx h
end
/-! ### in -/
def flatD : D → Bool
  | .non | .bl _ | .int _ | .str _ => true
  | _ => false
def eqF : D → D → Bool
  | .non, .non => true
  | .bl a, .bl b => a == b
  | .int a, .int b => decide (a = b)
  | .str a, .str b => decide (a = b)
  | .bl a, .int b => decide ((if a then 1 else 0) = b)
  | .int a, .bl b => decide (a = (if b then 1 else 0))
  | _, _ => false
end DL
/-! DL9: in, len, stores, methods, built-ins. -/
namespace DL
open PySem PySem.Spec L2
set_option autoImplicit false
/-! ### in -/
def inSeq (x : D) (ds : List D) : Res Bool := if flatD x = true ∧ ds.all flatD = true then .ok (ds.any fun y => eqF y x) else .bad
def inD : D → D → Res Bool
  | x, .lst ds => inSeq x ds
  | x, .tup ds => inSeq x ds
  | .str x, .str y => .ok (!(Builtin.Str.occurrences y x 0 y.length 1).isEmpty)
  | .tup _, .dic false _ => .bad
  | x, .dic false kvs => match asKey x with
    | some _ => .ok (lookD kvs x).isSome
    | none => .bad
  | .tup ks, .dic true kvs => match asKeys ks with
    | some _ => .ok (lookD kvs (.tup ks)).isSome
    | none => .bad
  | _, _ => .bad
def notInD (x y : D) : Res Bool := match inD x y with
  | .ok b => .ok (!b)
  | r => r
theorem inSeq_nx (x : D) (ds : List D) : Noex (inSeq x ds) := fun e h => by unfold inSeq at h; split at h <;> cases h
theorem inD_nx (x y : D) : Noex (inD x y) := fun e h => by
  unfold inD at h
  split at h <;> first | exact inSeq_nx _ _ e h | cases h | (split at h <;> cases h)
theorem notInD_nx (x y : D) : Noex (notInD x y) := fun e h => by
  unfold notInD at h
  split at h
  · cases h
  · exact inD_nx x y e h
section
variable {X : Cx}
def rInD (K : Frag) (neg : Bool) : R2 := fun x y H Q => ∃ a o, y = .ref a ∧ DGetX K H a x o ∧ Q (.bl (if neg then !o.isSome else o.isSome)) H
theorem op_inD (hu : X.A.units + 1 < cLine) : OpR X (compareOp .In) (rInD X.K false) := by
  intro pins s σ H x y v u Q I rx ry ⟨a, o, e, g, q⟩
  subst e
  cases ry
  exact d_inX hu I g rx fun s' I' => ⟨.bl o.isSome, H, I', rfl, q⟩
theorem op_notInD (hu : X.A.units + 1 < cLine) : OpR X (compareOp .NotIn) (rInD X.K true) := by
  intro pins s σ H x y v u Q I rx ry ⟨a, o, e, g, q⟩
  subst e
  cases ry
  exact d_notInX hu I g rx fun s' I' => ⟨.bl (!o.isSome), H, I', rfl, q⟩
def rInS (neg : Bool) : R2 := fun x y H Q => ∃ i j, x = .str i ∧ y = .str j ∧ Q (.bl (if neg then !(!(Builtin.Str.occurrences j i 0 j.length 1).isEmpty) else !(Builtin.Str.occurrences j i 0 j.length 1).isEmpty)) H
abbrev rIn3 (K : Frag) (neg : Bool) : R2 := fun x y H Q => (rIn K neg x y H Q ∨ rInS neg x y H Q) ∨ rInD K neg x y H Q
theorem op_in3 (hu : X.A.units + 1 < cLine) : OpR X (compareOp .In) (rIn3 X.K false) := OpR.or (OpR.or op_in_seq op_in_str) (op_inD hu)
theorem op_notIn3 (hu : X.A.units + 1 < cLine) : OpR X (compareOp .NotIn) (rIn3 X.K true) := OpR.or (OpR.or op_notIn_seq op_notin_str) (op_notInD hu)
end
section
variable {K : Frag} {os : List Bool}
theorem flat_rep {F : Hp} {d : D} {v : V} (f : flatD d = true) (h : Rep K F d v) : flatV v = true := by
  cases d with
  | non => cases (show v = .non from h); rfl
  | bl b => cases (show v = .bl b from h); rfl
  | int b => cases (show v = .int b from h); rfl
  | str b => cases (show v = .str b from h); rfl
  | _ => cases f
theorem flat_view {F H : Hp} {d : D} {v : V} (f : flatD d = true) (h : View K F H d v) : flatV v = true := by
  cases d with
  | non => exact flat_rep (K := K) (F := F) f h
  | bl b => exact flat_rep (K := K) (F := F) f h
  | int b => exact flat_rep (K := K) (F := F) f h
  | str b => exact flat_rep (K := K) (F := F) f h
  | _ => cases f
theorem eqF_V {F F' H : Hp} {x y : D} {v u : V} (fx : flatD x = true) (fy : flatD y = true) (hx : View K F H x v) (hy : Rep K F' y u) : eqV u v = eqF y x := by
  cases y <;> first | cases fy | skip
  all_goals cases (show u = _ from hy)
  all_goals cases x <;> first | cases fx | skip
  all_goals cases (show v = _ from hx)
  all_goals simp [eqV, eqF, Bool.beq_eq_decide_eq]
theorem any_eqF {F F' H : Hp} {x : D} {v : V} (fx : flatD x = true) (hx : View K F H x v) : ∀ {ds : List D} {us : List V}, ds.all flatD = true → Reps K F' ds us → inV v us = ds.any fun y => eqF y x
  | [], us, _, h => by
    cases (show us = [] from h)
    rfl
  | d :: ds, us, f, h => by
    obtain ⟨u, r, e, h1, h2⟩ := h
    subst e
    rw [List.all_cons, Bool.and_eq_true] at f
    show (eqV u v || inV v r) = (eqF d x || ds.any fun y => eqF y x)
    rw [eqF_V fx f.1 hx h1, any_eqF fx hx f.2 h2]
theorem all_flat {F : Hp} : ∀ {ds : List D} {us : List V}, ds.all flatD = true → Reps K F ds us → us.all flatV = true
  | [], us, _, h => by
    cases (show us = [] from h)
    rfl
  | d :: ds, us, f, h => by
    obtain ⟨u, r, e, h1, h2⟩ := h
    subst e
    rw [List.all_cons, Bool.and_eq_true] at f ⊢
    exact ⟨flat_rep f.1 h1, all_flat f.2 h2⟩
theorem in_read (neg : Bool) {F H : Hp} {x y : V} {dx dy : D} {b : Bool} {Q : VK} (vx : View K F H dx x) (vy : View K F H dy y) (e : inD dx dy = .ok b) (q : Q (.bl (if neg then !b else b)) H) : rIn3 K neg x y H Q := by
  have seq : ∀ {ds : List D} {a : Addr} {us : List V}, y = .ref a → (SqL K H a us ∨ SqT K H a us) → Reps K F ds us → inSeq dx ds = .ok b → rIn3 K neg x y H Q := fun {ds a us} ea hs hr e => by
    unfold inSeq at e
    split at e
    · rename_i hf
      cases e
      refine .inl (.inl ⟨a, us, ea, hs, flat_view hf.1 vx, all_flat hf.2 hr, ?_⟩)
      rw [any_eqF hf.1 vx hf.2 hr]
      exact q
    · cases e
  have dicK : ∀ {kvs : List (D × D)} {k : Key}, View K F H (.dic false kvs) y → asKey dx = some k → b = (lookD kvs dx).isSome → rIn3 K neg x y H Q := fun {kvs k} vy hk eb => by
    obtain ⟨a, ea, h⟩ := dgetK vy hk vx
    rcases h with ⟨h1, h2⟩ | ⟨d', v, h1, h2, h3⟩
    · rw [h1] at eb
      subst eb
      exact .inr ⟨a, none, ea, h2, q⟩
    · rw [h1] at eb
      subst eb
      exact .inr ⟨a, some v, ea, h2, q⟩
  cases dy with
  | lst ds =>
    obtain ⟨a, us, ea, ha, hr⟩ := vy
    refine seq ea (.inl ha) hr ?_
    cases dx <;> exact e
  | tup ds =>
    obtain ⟨a, us, ea, ha, hr⟩ := vy
    refine seq ea (.inr ha) hr ?_
    cases dx <;> exact e
  | str z =>
    cases dx with
    | str w =>
      cases e
      exact .inl (.inr ⟨w, z, vx, vy, q⟩)
    | _ => cases e
  | dic t kvs =>
    cases t with
    | false =>
      cases dx with
      | int i => cases e; exact dicK (k := .inl i) vy rfl rfl
      | str i => cases e; exact dicK (k := .inr i) vy rfl rfl
      | _ => cases e
    | true =>
      cases dx with
      | tup ds =>
        have e' : (match asKeys ds with
          | some _ => Res.ok (lookD kvs (.tup ds)).isSome
          | none => .bad) = .ok b := e
        cases hk : asKeys ds with
        | none => rw [hk] at e'; cases e'
        | some ks =>
          rw [hk] at e'
          cases e'
          obtain ⟨a, ea, h⟩ := dgetT vy hk vx
          rcases h with ⟨h1, h2⟩ | ⟨d', v, h1, h2, h3⟩
          · rw [h1] at q
            exact .inr ⟨a, none, ea, h2, q⟩
          · rw [h1] at q
            exact .inr ⟨a, some v, ea, h2, q⟩
      | _ => cases e
  | _ => cases dx <;> cases e
theorem inD_ok : Op2B K os (rIn3 K false) inD := by
  intro g ρ σ H F x y dx dy b Q hR vx vy e q
  exact in_read false vx vy e (q H F hR FLe.refl)
theorem notInD_ok : Op2B K os (rIn3 K true) notInD := by
  intro g ρ σ H F x y dx dy b Q hR vx vy e q
  unfold notInD at e
  split at e
  · rename_i b' eb
    cases e
    exact in_read true vx vy eb (q H F hR FLe.refl)
  · rename_i r hr
    exact absurd e (hr b)
end
/-! ### calls of built-ins with one argument that is read -/
section
variable {X : Cx} {E : XK} {os : List Bool} {e : Expr} {pos p : Pos} {fa : EM D} {x : Str}
def rV1 (K : Frag) : Gh → Ev → L2.St → Hp → Hp → D → List V → Prop := fun _ _ _ H F d vs => ∃ v, vs = [v] ∧ View K F H d v
theorem da_one (ha : PE X e (sV X.K E os fa)) (hs : starEach [e] X.env = (false, eval e X.env) :: starEach [] X.env := by rfl) : PA X [e] (tG X.K E os (rV1 X.K) fa) := PA.weak (pa_cons ha pa_nil hs) fun σ H Q ⟨g, ρ, F, r, w⟩ => by
  refine ⟨g, ρ, F, r, ?_⟩
  cases q : fa ρ with
  | ok pr =>
    obtain ⟨d, ρ'⟩ := pr
    rw [q] at w
    exact fun v H' F' hR le hv => w [v] H' F' hR le ⟨v, rfl, hv⟩
  | exc y => rw [q] at w; exact w
  | bad => rw [q] at w; exact w
theorem de_call1 {r : List V → Hp → VK → Prop} {rl : Gh → Ev → L2.St → Hp → Hp → D → V → Prop} {g1 : D → Res D} (hs : ∀ {t : TA}, PA X [e] t → PE X (.Call (.Name x p) [e] [] pos) (tCB r t)) (hg : Op1 X.K os (fun v => r [v]) g1 rl) (hn : ∀ x, Noex (g1 x)) (ha : PE X e (sV X.K E os fa)) (he : starEach [e] X.env = (false, eval e X.env) :: starEach [] X.env := by rfl) :
    PE X (.Call (.Name x p) [e] [] pos) (tG X.K E os rl (e1 g1 fa)) := PE.weak (hs (da_one ha he)) fun σ H Q ⟨g, ρ, F, hR, w⟩ => by
  refine tG.bind hR w fun dx vs ρ1 H1 F1 hR1 le1 rx w1 => ?_
  obtain ⟨v, ev, vv⟩ := rx
  subst ev
  obtain ⟨d, ed, w3⟩ := w1.lift2 (hn _)
  exact hg g ρ1 σ H1 F1 v dx d Q hR1 vv ed w3
/-- two: the first a datum -/
theorem de_call2 {e2' : Expr} {fb : EM D} {r : List V → Hp → VK → Prop} {rl : Gh → Ev → L2.St → Hp → Hp → D → V → Prop} {g2 : D → D → Res D} (hs : ∀ {t : TA}, PA X [e, e2'] t → PE X (.Call (.Name x p) [e, e2'] [] pos) (tCB r t)) (hg : Op2 X.K os (fun v u => r [v, u]) g2 rl) (hn : ∀ x y, Noex (g2 x y)) (ha : PE X e (sD X.K E os fa)) (hb : PE X e2' (sV X.K E os fb))
    (he : starEach [e, e2'] X.env = (false, eval e X.env) :: starEach [e2'] X.env := by rfl) (he2 : starEach [e2'] X.env = (false, eval e2' X.env) :: starEach [] X.env := by rfl) :
    PE X (.Call (.Name x p) [e, e2'] [] pos) (tG X.K E os rl (e2 g2 fa fb)) := PE.weak (hs (pa_cons ha (pa_cons hb pa_nil he2) he)) fun σ H Q h => bin_read hg hn h
/-- the first a name -/
theorem de_call2N {i : Nat} {e2' : Expr} {fb : EM D} {r : List V → Hp → VK → Prop} {rl : Gh → Ev → L2.St → Hp → Hp → D → V → Prop} {g2 : D → D → Res D} (hs : ∀ {t : TA}, PA X [e, e2'] t → PE X (.Call (.Name x p) [e, e2'] [] pos) (tCB r t)) (hg : Op2 X.K os (fun v u => r [v, u]) g2 rl) (hn : ∀ x y, Noex (g2 x y)) (ha : PE X e (tVar i)) (hb : PE X e2' (sV X.K E os fb))
    (he : starEach [e, e2'] X.env = (false, eval e X.env) :: starEach [e2'] X.env := by rfl) (he2 : starEach [e2'] X.env = (false, eval e2' X.env) :: starEach [] X.env := by rfl) :
    PE X (.Call (.Name x p) [e, e2'] [] pos) (tG X.K E os rl (e2N g2 i fb)) := PE.weak (hs (pa_cons ha (pa_cons hb pa_nil he2) he)) fun σ H Q h => bin_readN hg hn h
end
/-! len -/
def lenD : D → Res D
  | .str x => if x.length ≤ sizeLine then .ok (.int x.length) else .bad
  | .lst xs => .ok (.int xs.length)
  | .tup xs => .ok (.int xs.length)
  | .dic _ kvs => .ok (.int kvs.length)
  | _ => .bad
theorem lenD_nx (x : D) : Noex (lenD x) := fun e h => by unfold lenD at h; split at h <;> first | cases h | (split at h <;> cases h)
def rLenD : List V → Hp → VK → Prop := fun xs H Q => ∃ a, xs = [V.ref a] ∧ ((∃ kvs : List (Key × V), Rd H a (.dK kvs) ∧ Q (.int kvs.length) H) ∨ ∃ kvs : List (List Key × V), Rd H a (.dT kvs) ∧ Q (.int kvs.length) H)
section
variable {X : Cx}
theorem call_lenD2 : CallR X (.builtin "len") rLenD := by
  intro pins s σ H xs us Q I r h
  obtain ⟨a, rfl, h⟩ := h
  obtain ⟨u, rfl, ru⟩ := vals1 r
  cases ru
  rcases h with ⟨kvs, ha, q⟩ | ⟨kvs, ha, q⟩
  · exact d_len I ha fun t s' I' => ⟨.int kvs.length, H, I', ⟨t, rfl⟩, q⟩
  · obtain ⟨z, hd, xs, rel, dd⟩ := dt_rd I.hok ha
    have l1 : kvs.length = xs.length := Paired.length rel
    refine call_len_dictH hd dd (by rw [← l1]; rw [sizeLine_eq] at z; omega) ?_
    rw [← l1]
    exact ⟨.int kvs.length, H, I.tok _, ⟨_, rfl⟩, q⟩
theorem CallR.or {f : Value} {r r' : List V → Hp → VK → Prop} (h : CallR X f r) (h' : CallR X f r') : CallR X f (fun xs H Q => r xs H Q ∨ r' xs H Q) := fun pins s σ H xs us Q I rv q => q.elim (h pins s σ H xs us Q I rv) (h' pins s σ H xs us Q I rv)
end
end DL
/-! DL10: len, truth, stores, methods, built-ins. -/
namespace DL
open PySem PySem.Spec L2
set_option autoImplicit false
section
variable {X : Cx} {K : Frag} {os : List Bool} {E : XK}
abbrev rLen2 (K : Frag) : List V → Hp → VK → Prop := fun xs H Q => (∃ x n, xs = [x] ∧ LenV K x H n ∧ Q (.int n) H) ∨ rLenD xs H Q
theorem call_len2 : CallR X (.builtin "len") (rLen2 X.K) := CallR.or call_len call_lenD2
theorem lenD_ok : Op1 K os (fun v => rLen2 K [v]) lenD (rD K) := by
  intro g ρ σ H F x dx d Q hR vx e q
  cases dx with
  | str z =>
    have e' : (if z.length ≤ sizeLine then Res.ok (D.int z.length) else .bad) = .ok d := e
    split at e'
    · rename_i hz
      cases e'
      cases (show x = .str z from vx)
      exact .inl ⟨.str z, z.length, rfl, ⟨hz, rfl⟩, q _ H F hR FLe.refl rfl⟩
    · cases e'
  | lst xs =>
    cases e
    obtain ⟨a, vs, ea, ha, hr⟩ := vx
    refine .inl ⟨x, vs.length, rfl, ?_, q _ H F hR FLe.refl (by rw [hr.length]; rfl)⟩
    rw [ea]
    exact .inl ⟨vs, ha, rfl⟩
  | tup xs =>
    cases e
    obtain ⟨a, vs, ea, ha, hr⟩ := vx
    refine .inl ⟨x, vs.length, rfl, ?_, q _ H F hR FLe.refl (by rw [hr.length]; rfl)⟩
    rw [ea]
    exact .inr ⟨vs, ha, rfl⟩
  | dic t kvs =>
    cases e
    obtain ⟨a, ea, h⟩ := vx
    refine .inr ⟨a, by rw [ea], ?_⟩
    rcases h with ⟨_, l, hl, hk⟩ | ⟨_, l, hl, hk⟩
    · exact .inl ⟨l, hl, q _ H F hR FLe.refl (by rw [hk.length]; rfl)⟩
    · exact .inr ⟨l, hl, q _ H F hR FLe.refl (by rw [hk.length]; rfl)⟩
  | _ => cases e
/-! int, abs, gcd, str -/
def intD : D → Res D
  | .int i => .ok (.int i)
  | .bl b => .ok (.int (if b then 1 else 0))
  | _ => .bad
def absD : D → Res D
  | .int i => .ok (.int (if i < 0 then -i else i))
  | _ => .bad
def gcdD : D → D → Res D
  | .int i, .int j => .ok (.int ((Nat.gcd i.natAbs j.natAbs : Nat) : Int))
  | _, _ => .bad
def maxD : D → D → Res D
  | .int i, .int j => .ok (.int (if j > i then j else i))
  | _, _ => .bad
def minD : D → D → Res D
  | .int i, .int j => .ok (.int (if j < i then j else i))
  | _, _ => .bad
def strD : D → Res D
  | .int i => if i.natAbs.log2 < 1920 then .ok (.str (toString i)) else .bad
  | _ => .bad
theorem intD_nx (x : D) : Noex (intD x) := fun e h => by unfold intD at h; split at h <;> cases h
theorem absD_nx (x : D) : Noex (absD x) := fun e h => by unfold absD at h; split at h <;> cases h
theorem gcdD_nx (x y : D) : Noex (gcdD x y) := fun e h => by unfold gcdD at h; split at h <;> cases h
theorem maxD_nx (x y : D) : Noex (maxD x y) := fun e h => by unfold maxD at h; split at h <;> cases h
theorem minD_nx (x y : D) : Noex (minD x y) := fun e h => by unfold minD at h; split at h <;> cases h
theorem strD_nx (x : D) : Noex (strD x) := fun e h => by unfold strD at h; split at h <;> first | cases h | (split at h <;> cases h)
abbrev rInt1 : List V → Hp → VK → Prop := fun xs H Q => (∃ i, xs = [.int i] ∧ Q (.int i) H) ∨ ∃ k, xs = [.bl k] ∧ Q (.int (if k then 1 else 0)) H
theorem intD_ok : Op1 K os (fun v => rInt1 [v]) intD (rD K) := by
  intro g ρ σ H F x dx d Q hR vx e q
  cases dx with
  | int i =>
    cases e
    cases (show x = .int i from vx)
    exact .inl ⟨i, rfl, q _ H F hR FLe.refl rfl⟩
  | bl b =>
    cases e
    cases (show x = .bl b from vx)
    exact .inr ⟨b, rfl, q _ H F hR FLe.refl rfl⟩
  | _ => cases e
abbrev rAbs1 : List V → Hp → VK → Prop := fun xs H Q => ∃ i, xs = [.int i] ∧ Q (.int (if i < 0 then -i else i)) H
theorem absD_ok : Op1 K os (fun v => rAbs1 [v]) absD (rD K) := by
  intro g ρ σ H F x dx d Q hR vx e q
  cases dx with
  | int i =>
    cases e
    cases (show x = .int i from vx)
    exact ⟨i, rfl, q _ H F hR FLe.refl rfl⟩
  | _ => cases e
abbrev rStr1 : List V → Hp → VK → Prop := fun xs H Q => ∃ i, xs = [.int i] ∧ i.natAbs.log2 < 1920 ∧ Q (.str (toString i)) H
theorem strD_ok : Op1 K os (fun v => rStr1 [v]) strD (rD K) := by
  intro g ρ σ H F x dx d Q hR vx e q
  cases dx with
  | int i =>
    have e' : (if i.natAbs.log2 < 1920 then Res.ok (D.str (toString i)) else .bad) = .ok d := e
    split at e'
    · rename_i hl
      cases e'
      cases (show x = .int i from vx)
      exact ⟨i, rfl, hl, q _ H F hR FLe.refl rfl⟩
    · cases e'
  | _ => cases e
theorem gcdD_ok : Op2 K os (fun v u => rGcd [v, u]) gcdD (rD K) := by
  intro g ρ σ H F x y dx dy d Q hR vx vy e q
  unfold gcdD at e
  split at e
  · rename_i i j
    cases e
    cases (show x = .int i from vx)
    cases (show y = .int j from vy)
    exact ⟨i, j, rfl, q _ H F hR FLe.refl rfl⟩
  · cases e
abbrev rMax2 : List V → Hp → VK → Prop := fun xs H Q => ∃ i j, xs = [.int i, .int j] ∧ Q (.int (if j > i then j else i)) H
abbrev rMin2 : List V → Hp → VK → Prop := fun xs H Q => ∃ i j, xs = [.int i, .int j] ∧ Q (.int (if j < i then j else i)) H
theorem maxD_ok : Op2 K os (fun v u => rMax2 [v, u]) maxD (rD K) := by
  intro g ρ σ H F x y dx dy d Q hR vx vy e q
  unfold maxD at e
  split at e
  · rename_i i j
    cases e
    cases (show x = .int i from vx)
    cases (show y = .int j from vy)
    exact ⟨i, j, rfl, q _ H F hR FLe.refl rfl⟩
  · cases e
theorem minD_ok : Op2 K os (fun v u => rMin2 [v, u]) minD (rD K) := by
  intro g ρ σ H F x y dx dy d Q hR vx vy e q
  unfold minD at e
  split at e
  · rename_i i j
    cases e
    cases (show x = .int i from vx)
    cases (show y = .int j from vy)
    exact ⟨i, j, rfl, q _ H F hR FLe.refl rfl⟩
  · cases e
/-! list(x), dict(x), tuple(x) -/
def listD : D → Res D
  | .lst xs => .ok (.lst xs)
  | .tup xs => .ok (.lst xs)
  | .dic false kvs => .ok (.lst (kvs.map (·.1)))
  | _ => .bad
def dictD : D → Res D
  | .dic false kvs => .ok (.dic false kvs)
  | _ => .bad
def tupleD : D → Res D
  | .lst xs => .ok (.tup xs)
  | .tup xs => .ok (.tup xs)
  | _ => .bad
theorem listD_nx (x : D) : Noex (listD x) := fun e h => by unfold listD at h; split at h <;> cases h
theorem dictD_nx (x : D) : Noex (dictD x) := fun e h => by unfold dictD at h; split at h <;> cases h
theorem tupleD_nx (x : D) : Noex (tupleD x) := fun e h => by unfold tupleD at h; split at h <;> cases h
abbrev rList2 (K : Frag) : List V → Hp → VK → Prop := fun xs H Q => (∃ p ys, xs = [.ref p] ∧ (SqL K H p ys ∨ SqT K H p ys) ∧ ∀ l, H l = none → Q (.ref l) (upd H l (.lst ys))) ∨
  ∃ (a : Addr) (kvs : List (Key × V)), xs = [.ref a] ∧ Rd H a (.dK kvs) ∧ ∀ p, H p = none → Q (.ref p) (upd H p (.lst (kvs.map fun kv => kV kv.1)))
theorem call_list2 (hc : X.calm = true) : CallR X (.type "list") (rList2 X.K) := CallR.or call_list_of (call_listD hc)
theorem RepK.keysR {F : Hp} : ∀ {kvs : List (D × D)} {l : List (Key × V)}, RepK K F kvs l → Reps K F (kvs.map (·.1)) (l.map fun kv => kV kv.1)
  | [], l, h => by
    cases (show l = [] from h)
    rfl
  | (q, d) :: r, l, h => by
    obtain ⟨k', v, m, e1, e2, h3, h4⟩ := h
    subst e1 e2
    exact ⟨_, _, rfl, rep_kD k', RepK.keysR h4⟩
theorem listD_ok : Op1 K os (fun v => rList2 K [v]) listD (rO K os) := by
  intro g ρ σ H F x dx d Q hR vx e q
  have fin : ∀ {xs : List D} {vs : List V} {p : Addr}, H p = none → Reps K F xs vs → d = .lst xs → Q (.ref p) (upd H p (.lst vs)) := fun {xs vs p} hp hr ed => by
    subst ed
    exact q (.ref p) _ F (hR.laid hp) FLe.refl ⟨p, rfl, Free.new hR hp ⟨vs, upd_same, hr⟩⟩
  cases dx with
  | lst xs =>
    cases e
    obtain ⟨a, vs, ea, ha, hr⟩ := vx
    exact .inl ⟨a, vs, by rw [ea], .inl ha, fun p hp => fin hp hr rfl⟩
  | tup xs =>
    cases e
    obtain ⟨a, vs, ea, ha, hr⟩ := vx
    exact .inl ⟨a, vs, by rw [ea], .inr ha, fun p hp => fin hp hr rfl⟩
  | dic t kvs =>
    cases t with
    | false =>
      cases e
      obtain ⟨a, ea, h⟩ := vx
      rcases h with ⟨_, l, hl, hk⟩ | ⟨h, _⟩
      · exact .inr ⟨a, l, by rw [ea], hl, fun p hp => fin hp hk.keysR rfl⟩
      · cases h
    | true => cases e
  | _ => cases e
abbrev rDict1 : List V → Hp → VK → Prop := fun xs H Q => ∃ (a : Addr) (kvs : List (Key × V)), xs = [.ref a] ∧ Rd H a (.dK kvs) ∧ ∀ p, H p = none → Q (.ref p) (upd H p (.dK kvs))
theorem dictD_ok : Op1 K os (fun v => rDict1 [v]) dictD (rO K os) := by
  intro g ρ σ H F x dx d Q hR vx e q
  cases dx with
  | dic t kvs =>
    cases t with
    | false =>
      cases e
      obtain ⟨a, ea, h⟩ := vx
      rcases h with ⟨_, l, hl, hk⟩ | ⟨h, _⟩
      · exact ⟨a, l, by rw [ea], hl, fun p hp => q (.ref p) _ F (hR.laid hp) FLe.refl ⟨p, rfl, Free.new hR hp (.inl ⟨rfl, l, upd_same, hk⟩)⟩⟩
      · cases h
    | true => cases e
  | _ => cases e
abbrev rTuple1 (K : Frag) : List V → Hp → VK → Prop := fun xs H Q => ∃ p ys, xs = [.ref p] ∧ ((SqL K H p ys ∧ ∀ l, H l = none → Q (.ref l) (upd H l (.tup ys))) ∨ (SqT K H p ys ∧ Q (.ref p) H))
theorem tupleL_ok : Op1 K os (fun v => rTuple1 K [v]) (fun d => match d with | .lst xs => .ok (.tup xs) | _ => .bad) (rK K) := by
  intro g ρ σ H F x dx d Q hR vx e q
  cases dx with
  | lst xs =>
    cases e
    obtain ⟨a, vs, ea, ha, hr⟩ := vx
    refine ⟨a, vs, by rw [ea], .inl ⟨ha, fun p hp => ?_⟩⟩
    have le : FLe F (upd F p (.tup vs)) := FLe.upd (hR.none_of hp)
    exact q (.ref p) _ _ (hR.new hp (fun _ _ z => nomatch z)) le ⟨⟨p, vs, rfl, .inl upd_same, Reps.mono le _ _ hr⟩, fun b eb => by cases eb; exact ⟨vs, upd_same⟩⟩
  | _ => cases e
/-! isinstance(x, T) -/
def tyName : D → String
  | .non => "NoneType"
  | .bl _ => "bool"
  | .int _ => "int"
  | .str _ => "str"
  | .lst _ => "list"
  | .tup _ => "tuple"
  | .dic _ _ => "dict"
  | .set _ => "set"
def isiD (T : String) (d : D) : Res D := match kitB (tyName d) T with
  | some b => .ok (.bl b)
  | none => .bad
theorem isiD_nx (T : String) (x : D) : Noex (isiD T x) := fun e h => by unfold isiD at h; split at h <;> cases h
theorem weak3 {α : Type} {A B : α → Prop} {C C' : Prop} (c : C') : (∃ P, A P ∧ B P ∧ C) → ∃ P, A P ∧ B P ∧ C' := fun ⟨P, a, b, _⟩ => ⟨P, a, b, c⟩
theorem no_builtin {H F : Hp} {d : D} {v : V} {u : Value} {K : Frag} (rx : RelV v u) (h : View K F H d v) (id : String) : u ≠ .builtin id := by
  intro z
  subst z
  cases d with
  | non => cases (show v = .non from h); exact nomatch (show Value.builtin id = Value.none from rx)
  | bl b => cases (show v = .bl b from h); exact nomatch (show Value.builtin id = Value.bool b from rx)
  | int b => cases (show v = .int b from h); obtain ⟨t, e⟩ := (show ∃ t, Value.builtin id = Value.int b t from rx); cases e
  | str b => cases (show v = .str b from h); obtain ⟨t, e⟩ := (show ∃ t, Value.builtin id = Value.str b t from rx); cases e
  | lst xs => obtain ⟨a, vs, ea, _⟩ := h; subst ea; exact nomatch (show Value.builtin id = Value.ref a from rx)
  | tup xs => obtain ⟨a, vs, ea, _⟩ := h; subst ea; exact nomatch (show Value.builtin id = Value.ref a from rx)
  | dic t kvs => obtain ⟨a, ea, _⟩ := h; subst ea; exact nomatch (show Value.builtin id = Value.ref a from rx)
  | set _ => exact h.elim
theorem kit_view {pins : List (Addr × Obj)} {σ : L2.St} {H F : Hp} {s : Shared} {d : D} {v : V} {u : Value} (I : Inv X pins σ H s) (rx : RelV v u) (h : View X.K F H d v) : ∃ P : Heap → Prop, PySem.W.KitX X.K u (.type (tyName d)) P ∧ P s.heap ∧ ∀ id : String, u ≠ .builtin id := by
  have nb := no_builtin rx h
  cases d with
  | non => cases (show v = .non from h); exact weak3 nb (kit_of I rx (.base .non))
  | bl b => cases (show v = .bl b from h); exact weak3 nb (kit_of I rx (.base (.bl b)))
  | int b => cases (show v = .int b from h); exact weak3 nb (kit_of I rx (.base (.int b)))
  | str b => cases (show v = .str b from h); exact weak3 nb (kit_of I rx (.base (.str b)))
  | lst xs =>
    obtain ⟨a, vs, ea, ha, _⟩ := h
    subst ea
    rcases ha with (ha | ⟨o, ha⟩) | ⟨o, its, n, hk, hc, _⟩
    · exact weak3 nb (kit_of I rx (.base (.lst ha)))
    · exact weak3 nb (kit_of I rx (.base (.frz ha)))
    · exact weak3 nb (kit_of I rx (.kList hk hc))
  | tup xs =>
    obtain ⟨a, vs, ea, ha, _⟩ := h
    subst ea
    rcases ha with (ha | ⟨o, ha⟩) | ⟨o, its, n, hk, hc, _⟩
    · exact weak3 nb (kit_of I rx (.base (.tup ha)))
    · exact weak3 nb (kit_of I rx (.fTuple ha))
    · exact weak3 nb (kit_of I rx (.kTuple hk hc))
  | dic t kvs =>
    obtain ⟨a, ea, h⟩ := h
    subst ea
    cases (show u = Value.ref a from rx)
    rcases h with ⟨_, l, hl, _⟩ | ⟨_, l, hl, _⟩
    · obtain ⟨_, _, vs, _, o, es, ep, h1, h2, _⟩ := dk_rd I.hok hl
      exact ⟨_, PySem.W.kitx_dict, ⟨o, h1, h2.1⟩, nb⟩
    · obtain ⟨_, _, xs, _, o, es, ep, h1, h2, _⟩ := dt_rd I.hok hl
      exact ⟨_, PySem.W.kitx_dict, ⟨o, h1, h2.1⟩, nb⟩
  | set _ => exact h.elim
def rIsiD (K : Frag) (T : String) : List V → Hp → VK → Prop := fun xs H Q => ∃ F d v b, xs = [v, .ty T] ∧ View K F H d v ∧ kitB (tyName d) T = some b ∧ Q (.bl b) H
theorem call_isiD {T : String} : CallR X (.builtin "isinstance") (rIsiD X.K T) := by
  intro pins s σ H xs us Q I r h
  obtain ⟨F, d, v, b, rfl, hv, hk, q⟩ := h
  obtain ⟨u1, u2, rfl, r1, r2⟩ := vals2 r
  cases (show u2 = Value.type T from r2)
  obtain ⟨P, Z, p, hx⟩ := kit_view I r1 hv
  exact PySem.W.kia_one Z I.kIn p (kit_ty hk) (hx _) fun tk => ⟨.bl b, H, I.tok tk, rfl, q⟩
theorem de_isi {e ty : Expr} {pos p : Pos} {x : Str} {T : String} {fa : EM D} (hs : ∀ {t : TA}, PA X [e, ty] t → PE X (.Call (.Name x p) [e, ty] [] pos) (tCB (rIsiD X.K T) t)) (ha : PE X e (sV X.K E os fa)) (hb : PE X ty (tC (.ty T)))
    (he : starEach [e, ty] X.env = (false, eval e X.env) :: starEach [ty] X.env := by rfl) (he2 : starEach [ty] X.env = (false, eval ty X.env) :: starEach [] X.env := by rfl) :
    PE X (.Call (.Name x p) [e, ty] [] pos) (sD X.K E os (e1 (isiD T) fa)) := PE.weak (hs (pa_cons ha (pa_cons hb pa_nil he2) he)) fun σ H Q ⟨g, ρ, F, hR, w⟩ => by
  refine tG.bind hR w fun d v ρ1 H1 F1 hR1 le1 rx w1 => ?_
  obtain ⟨d', ed, w3⟩ := w1.lift2 (isiD_nx T _)
  unfold isiD at ed
  split at ed
  · rename_i b hb
    cases ed
    exact ⟨F1, d, v, b, rfl, rx, hb, w3 _ H1 F1 hR1 FLe.refl rfl⟩
  · cases ed
/-! all, any, sum -/
def blsOf : List D → Option (List Bool)
  | [] => some []
  | .bl b :: r => (blsOf r).map (b :: ·)
  | _ => none
def intsOf : List D → Option (List Int)
  | [] => some []
  | .int b :: r => (intsOf r).map (b :: ·)
  | _ => none
theorem bls_reps {F : Hp} : ∀ {ds : List D} {bs : List Bool} {vs : List V}, blsOf ds = some bs → Reps K F ds vs → vs = bs.map V.bl
  | [], bs, vs, e, h => by
    cases e
    exact h
  | d :: ds, bs, vs, e, h => by
    obtain ⟨v, r, e1, h1, h2⟩ := h
    subst e1
    cases d with
    | bl b =>
      obtain ⟨cs, q1, q2⟩ := Option.map_eq_some_iff.mp (show (blsOf ds).map (b :: ·) = some bs from e)
      subst q2
      rw [bls_reps q1 h2, show v = .bl b from h1]; rfl
    | _ => cases e
theorem ints_reps {F : Hp} : ∀ {ds : List D} {bs : List Int} {vs : List V}, intsOf ds = some bs → Reps K F ds vs → vs = bs.map V.int
  | [], bs, vs, e, h => by
    cases e
    exact h
  | d :: ds, bs, vs, e, h => by
    obtain ⟨v, r, e1, h1, h2⟩ := h
    subst e1
    cases d with
    | int b =>
      obtain ⟨cs, q1, q2⟩ := Option.map_eq_some_iff.mp (show (intsOf ds).map (b :: ·) = some bs from e)
      subst q2
      rw [ints_reps q1 h2, show v = .int b from h1]; rfl
    | _ => cases e
def allD : D → Res D
  | .lst ds => match blsOf ds with
    | some bs => .ok (.bl (bs.all id))
    | none => .bad
  | _ => .bad
def anyD : D → Res D
  | .lst ds => match blsOf ds with
    | some bs => .ok (.bl (bs.any id))
    | none => .bad
  | _ => .bad
def sumD : D → Res D
  | .lst ds => match intsOf ds with
    | some bs => .ok (.int bs.sum)
    | none => .bad
  | _ => .bad
theorem allD_nx (x : D) : Noex (allD x) := fun e h => by unfold allD at h; split at h <;> first | cases h | (split at h <;> cases h)
theorem anyD_nx (x : D) : Noex (anyD x) := fun e h => by unfold anyD at h; split at h <;> first | cases h | (split at h <;> cases h)
theorem sumD_nx (x : D) : Noex (sumD x) := fun e h => by unfold sumD at h; split at h <;> first | cases h | (split at h <;> cases h)
theorem allD_ok : Op1 K os (fun v => rAll K [v]) allD (rD K) := by
  intro g ρ σ H F x dx d Q hR vx e q
  unfold allD at e
  split at e
  · split at e
    · rename_i bs hb
      cases e
      obtain ⟨a, vs, ea, ha, hr⟩ := vx
      rw [bls_reps hb hr] at ha
      exact ⟨a, bs, by rw [ea], ha, q _ H F hR FLe.refl rfl⟩
    · cases e
  · cases e
theorem anyD_ok : Op1 K os (fun v => rAny K [v]) anyD (rD K) := by
  intro g ρ σ H F x dx d Q hR vx e q
  unfold anyD at e
  split at e
  · split at e
    · rename_i bs hb
      cases e
      obtain ⟨a, vs, ea, ha, hr⟩ := vx
      rw [bls_reps hb hr] at ha
      exact ⟨a, bs, by rw [ea], ha, q _ H F hR FLe.refl rfl⟩
    · cases e
  · cases e
theorem sumD_ok : Op1 K os (fun v => rSum K [v]) sumD (rD K) := by
  intro g ρ σ H F x dx d Q hR vx e q
  unfold sumD at e
  split at e
  · split at e
    · rename_i bs hb
      cases e
      obtain ⟨a, vs, ea, ha, hr⟩ := vx
      rw [ints_reps hb hr] at ha
      exact ⟨a, bs, by rw [ea], ha, q _ H F hR FLe.refl rfl⟩
    · cases e
  · cases e
/-! ranges -/
def rngL (lo hi : Int) : List D := (List.range (hi - lo).toNat).map fun (i : Nat) => D.int (lo + (i : Int))
def rng2D : D → D → Res (List D)
  | .int i, .int j => if -(2 ^ 62) ≤ i ∧ i < 2 ^ 62 ∧ -(2 ^ 62) ≤ j ∧ j < 2 ^ 62 then .ok (rngL i j) else .bad
  | _, _ => .bad
def rng1D : D → Res (List D)
  | .int j => if -(2 ^ 62) ≤ j ∧ j < 2 ^ 62 then .ok (rngL 0 j) else .bad
  | _ => .bad
theorem rng2D_nx (x y : D) : Noex (rng2D x y) := fun e h => by unfold rng2D at h; split at h <;> first | cases h | (split at h <;> cases h)
theorem rng1D_nx (x : D) : Noex (rng1D x) := fun e h => by unfold rng1D at h; split at h <;> first | cases h | (split at h <;> cases h)
variable {tg : Expr} {a b : Expr} {pos p : Pos} {fa fb : EM D}
theorem di_range1 (hs : ∀ {t : TA}, PA X [a] t → PI X tg (.Call (.Name "range" p) [a] [] pos) (iRng1 t)) (ha : PE X a (sV X.K E os fa)) (he : starEach [a] X.env = (false, eval a X.env) :: starEach [] X.env := by rfl) : PI X tg (.Call (.Name "range" p) [a] [] pos) (sI X.K E os (e1 rng1D fa)) :=
  PI.weak (hs (da_one ha he)) fun σ H Q ⟨g, ρ, F, hR, w⟩ => by
    refine tG.bind hR w fun d vs ρ1 H1 F1 hR1 le1 rx w1 => ?_
    obtain ⟨v, ev, vv⟩ := rx
    subst ev
    obtain ⟨ds, ed, w3⟩ := w1.lift2 (rng1D_nx _)
    unfold rng1D at ed
    split at ed
    · rename_i j
      split at ed
      · rename_i hj
        cases ed
        cases (show v = .int j from vv)
        refine ⟨j, rfl, hj.1, hj.2, w3 _ H1 F1 hR1 FLe.refl ?_⟩
        have := ItD.range (K := X.K) (g := g) (F := F1) (lo := 0) (n := j.toNat)
        unfold rngL
        rw [Int.sub_zero]
        exact this
      · cases ed
    · cases ed
theorem di_range2 (hs : ∀ {t : TA}, PA X [a, b] t → PI X tg (.Call (.Name "range" p) [a, b] [] pos) (iRng2 t)) (ha : PE X a (sD X.K E os fa)) (hb : PE X b (sV X.K E os fb)) (he : starEach [a, b] X.env = (false, eval a X.env) :: starEach [b] X.env := by rfl) (he2 : starEach [b] X.env = (false, eval b X.env) :: starEach [] X.env := by rfl) :
    PI X tg (.Call (.Name "range" p) [a, b] [] pos) (sI X.K E os (e2 rng2D fa fb)) :=
  PI.weak (hs (pa_cons ha (pa_cons hb pa_nil he2) he)) fun σ H Q ⟨g, ρ, F, hR, w⟩ => by
    refine tG.bind hR w fun d v ρ1 H1 F1 hR1 le1 rx w1 => ?_
    refine tG.bind hR1 w1 fun d2 v2 ρ2 H2 F2 hR2 le2 rx2 w2 => ?_
    obtain ⟨ds, ed, w3⟩ := w2.lift2 (rng2D_nx _ _)
    unfold rng2D at ed
    split at ed
    · rename_i i j
      split at ed
      · rename_i hj
        cases ed
        cases (show v = .int i from rx)
        cases (show v2 = .int j from rx2)
        exact ⟨i, j, rfl, hj, w3 _ H2 F2 hR2 FLe.refl ItD.range⟩
      · cases ed
    · cases ed
/-- list(range(a, b)) -/
def lrngD (x y : D) : Res D := match rng2D x y with
  | .ok ds => if ds.length ≤ sizeLine then .ok (.lst ds) else .bad
  | _ => .bad
theorem lrngD_nx (x y : D) : Noex (lrngD x y) := fun e h => by
  unfold lrngD at h
  split at h
  · split at h <;> cases h
  · cases h
theorem do_lrng2 {p2 pos2 : Pos} (hc : X.calm = true) (hg : Gl X "list") (hm : X.mg "list" = none) (hg2 : Gl X "range") (hm2 : X.mg "range" = none) (ha : PE X a (sD X.K E os fa)) (hb : PE X b (sV X.K E os fb))
    (na : starEach [a, b] X.env = (false, eval a X.env) :: starEach [b] X.env := by rfl) (nb : starEach [b] X.env = (false, eval b X.env) :: starEach [] X.env := by rfl)
    (nc : starEach [.Call (.Name "range" p2) [a, b] [] pos2] X.env = (false, eval (.Call (.Name "range" p2) [a, b] [] pos2) X.env) :: starEach [] X.env := by rfl)
    (hp : ((backTo pos2 (starEach [b] X.env)).any fun x => x.fst) = false := by rfl) :
    PE X (.Call (.Name "list" p) [.Call (.Name "range" p2) [a, b] [] pos2] [] pos) (sO X.K E os (e2 lrngD fa fb)) := PE.weak (pe_listRg hc hg hm (prg_2 hg2 hm2 ha hb na nb hp) nc) fun σ H Q ⟨g, ρ, F, hR, w⟩ => by
  refine tG.bind hR w fun d v ρ1 H1 F1 hR1 le1 rx w1 => ?_
  refine tG.bind hR1 w1 fun d2 v2 ρ2 H2 F2 hR2 le2 rx2 w2 => ?_
  obtain ⟨d3, ed, w3⟩ := w2.lift2 (lrngD_nx _ _)
  unfold lrngD at ed
  split at ed
  · rename_i ds hds
    split at ed
    · rename_i hl
      cases ed
      unfold rng2D at hds
      split at hds
      · rename_i i j
        split at hds
        · rename_i hj
          cases hds
          cases (show v = .int i from rx)
          cases (show v2 = .int j from rx2)
          unfold rngL at hl
          rw [List.length_map, List.length_range, sizeLine_eq] at hl
          refine ⟨i, j, rfl, rfl, ⟨hj.1, hj.2.1, hj.2.2.1, hj.2.2.2, by omega⟩, fun q hq => ?_⟩
          refine w3 (.ref q) _ F2 (hR2.laid hq) FLe.refl ⟨q, rfl, Free.new hR2 hq ⟨_, upd_same, ?_⟩⟩
          have key : ∀ ns : List Nat, Reps X.K F2 (ns.map fun (n : Nat) => D.int (i + (n : Int))) (ns.map fun (n : Nat) => V.int (i + (n : Int))) := fun ns => by
            induction ns with
            | nil => rfl
            | cons n ns ih => exact ⟨_, _, rfl, rfl, ih⟩
          exact key _
        · cases hds
      · cases hds
    · cases ed
  · cases ed
/-! truth -/
def truD : D → Res Bool
  | .non => .ok false
  | .bl b => .ok b
  | .int i => .ok (i != 0)
  | .str x => if x.length ≤ sizeLine then .ok ((x.length : Int) != 0) else .bad
  | .lst xs => .ok (!xs.isEmpty)
  | .tup xs => .ok (!xs.isEmpty)
  | _ => .bad
theorem truD_nx (x : D) : Noex (truD x) := fun e h => by unfold truD at h; split at h <;> first | cases h | (split at h <;> cases h)
theorem tru_view {H F : Hp} {d : D} {v : V} {b : Bool} (h : View K F H d v) (e : truD d = .ok b) : TruV K v H b := by
  cases d with
  | non => cases (show v = .non from h); cases e; rfl
  | bl c => cases (show v = .bl c from h); cases e; rfl
  | int c => cases (show v = .int c from h); cases e; rfl
  | str c =>
    cases (show v = .str c from h)
    have e' : (if c.length ≤ sizeLine then Res.ok ((c.length : Int) != 0) else .bad) = .ok b := e
    split at e'
    · rename_i hc
      cases e'
      exact ⟨hc, rfl⟩
    · cases e'
  | lst xs =>
    obtain ⟨a, vs, ea, ha, hr⟩ := h
    subst ea
    cases e
    refine .inl ⟨vs, ha, ?_⟩
    have := hr.length
    cases xs <;> cases vs <;> first | rfl | cases this
  | tup xs =>
    obtain ⟨a, vs, ea, ha, hr⟩ := h
    subst ea
    cases e
    refine .inr (.inl ⟨vs, ha, ?_⟩)
    have := hr.length
    cases xs <;> cases vs <;> first | rfl | cases this
  | _ => cases e
theorem dt_tru {e : Expr} (ha : PE X e (sV X.K E os fa)) (he : ∀ whole, isTrue e X.env whole = (do let v ← whole; standAt e.pos; holding [v] (truthy v)) := by intro _; rfl) : PT X e (sB X.K E os (e1 truD fa)) := PT.weak (pt_truth ha he) fun σ H Q ⟨g, ρ, F, hR, w⟩ => by
  refine tG.bind hR w fun d v ρ1 H1 F1 hR1 le1 rx w1 => ?_
  obtain ⟨b, ed, w3⟩ := w1.lift2 (truD_nx _)
  exact ⟨b, tru_view rx ed, w3 b H1 F1 hR1 FLe.refl rfl⟩
end
end DL
/-! DL11: owned lists and dicts are changed; chains; pairs; sorted. -/
namespace DL
open PySem PySem.Spec L2
set_option autoImplicit false
/-! ### stores -/
def setD1 : D → D → D → Res D
  | .lst xs, .int k, d => match ixN xs.length k with
    | some j => .ok (.lst (xs.set j d))
    | none => .bad
  | .dic false kvs, q, d => match asKey q with
    | some _ => if kvs.length < sizeLine then .ok (.dic false (putD kvs q d)) else .bad
    | none => .bad
  | _, _, _ => .bad
def setDT : D → D → D → Res D
  | .dic true kvs, .tup ds, d => match asKeys ds with
    | some _ => if kvs.length < sizeLine then .ok (.dic true (putD kvs (.tup ds) d)) else .bad
    | none => .bad
  | _, _, _ => .bad
/-- the slot's object is changed; what is told -/
def eUpd (i : Nat) (g : D → Res (D × D)) : EM D := fun ρ => match ρ[i]? with
  | some (some x) => match g x with
    | .ok (x', r) => .ok (r, ρ.set i (some x'))
    | .exc e => .exc e
    | .bad => .bad
  | _ => .bad
def res2 (r : Res D) : Res (D × D) := match r with
  | .ok x => .ok (x, .non)
  | .exc e => .exc e
  | .bad => .bad
def sPut (i : Nat) (set : D → D → D → Res D) (fe fi : EM D) : SM := sDrop (eBind fe fun d => eBind (eVar i) fun _ => eBind fi fun q => eUpd i fun x => res2 (set x q d))
def rSet1 : TSet := fun o i v H Q => rSetL o i v H Q ∨ rSetD o i v H Q
theorem PSet.or {X : Cx} {t t' : TSet} (h : PSet X t) (h' : PSet X t') : PSet X (fun o i v H Q => t o i v H Q ∨ t' o i v H Q) := fun pins s σ H o i v ov iv u Q I r1 r2 r3 q => q.elim (h pins s σ H o i v ov iv u Q I r1 r2 r3) (h' pins s σ H o i v ov iv u Q I r1 r2 r3)
def rSetT (K : Frag) : TSet := fun o i v H Q => ∃ a b kvs k xs, o = .ref a ∧ i = .ref b ∧ H a = some (.dT kvs) ∧ SqT K H b (k.map kV) ∧ H b = some (.tup xs) ∧ kvs.length < sizeLine ∧ Q (upd H a (.dT (putK kvs k v)))
theorem set_T {X : Cx} (hu : X.A.units + 1 < cLine) : PSet X (rSetT X.K) := by
  intro pins s σ H o i v ov iv u Q I ro ri rv h
  obtain ⟨a, b, kvs, k, xs, eo, ei, ha, hk, hb, hl, q⟩ := h
  have e : xs = k.map kV := I.tuple_inj (.inl (.inl hb)) hk
  subst e
  exact set_dict hu pins s σ H o i v ov iv u Q I ro ri rv ⟨a, _, eo, by rw [ei]; exact DPut.t ha hb hl, q⟩
theorem set_1 {X : Cx} (hu : X.A.units + 1 < cLine) : PSet X rSet1 := PSet.or set_list (set_dict hu)
section
variable {K : Frag} {g : Gh} {os : List Bool} {ρ : Ev} {σ : L2.St} {H F : Hp}
theorem eUpd_ok {i : Nat} {gm : D → Res (D × D)} {ρ ρ' : Ev} {d : D} (h : eUpd i gm ρ = .ok (d, ρ')) : ∃ x x', ρ[i]? = some (some x) ∧ gm x = .ok (x', d) ∧ ρ' = ρ.set i (some x') := by
  unfold eUpd at h
  split at h
  · rename_i x q
    split at h
    · rename_i x' r q2
      cases h
      exact ⟨x, x', q, q2, rfl⟩
    · cases h
    · cases h
  · cases h
theorem R.set1 (r : R K g os ρ σ H F) {i : Nat} {x x' q d : D} {y v : V} (ho : os[i]? = some true) (h : ρ[i]? = some (some x)) (e : setD1 x q d = .ok x') (hy : View K F H q y) (hv : Rep K F d v) :
    ∃ a o, σ[i]? = some (some (.ref a)) ∧ R K g os (ρ.set i (some x')) σ (upd H a o) F ∧ ∀ Q : Hp → Prop, Q (upd H a o) → rSet1 (.ref a) y v H Q := by
  obtain ⟨a, e1, e2, e3, e4⟩ := r.ow i x ho h
  unfold setD1 at e
  split at e
  · rename_i xs k
    split at e
    · rename_i j hj
      cases e
      obtain ⟨vs, hH, hr⟩ := e3
      cases (show y = .int k from hy)
      refine ⟨a, .lst (vs.set j v), e1, r.write ho h e1 ⟨_, upd_same, Reps.set j hr hv⟩, fun Q q => .inl ⟨a, vs, k, j, rfl, rfl, hH, ?_, q⟩⟩
      rw [hr.length]; exact hj
    · cases e
  · rename_i kvs q0 d0
    split at e
    · rename_i k hk
      split at e
      · rename_i hl
        cases e
        rcases e3 with ⟨_, l, hH, hr⟩ | ⟨z, _⟩
        · have ek := asKey_eq hk
          have ey := key_view hk hy
          subst ey
          refine ⟨a, .dK (putK l k v), e1, r.write ho h e1 (.inl ⟨rfl, _, upd_same, ?_⟩), fun Q q => .inr ⟨a, _, rfl, DPut.k hH (by rw [hr.length]; exact hl), q⟩⟩
          rw [ek]; exact RepK.put hr hv
        · cases z
      · cases e
    · cases e
  · cases e
theorem R.setT (r : R K g os ρ σ H F) {i : Nat} {x x' q d : D} {y v : V} (ho : os[i]? = some true) (h : ρ[i]? = some (some x)) (e : setDT x q d = .ok x') (hy : Rep K F q y) (hy2 : ∀ b, y = .ref b → ∃ xs, H b = some (.tup xs)) (hv : Rep K F d v) :
    ∃ a o, σ[i]? = some (some (.ref a)) ∧ R K g os (ρ.set i (some x')) σ (upd H a o) F ∧ ∀ Q : Hp → Prop, Q (upd H a o) → rSetT K (.ref a) y v H Q := by
  obtain ⟨a, e1, e2, e3, e4⟩ := r.ow i x ho h
  unfold setDT at e
  split at e
  · rename_i kvs ds d0
    split at e
    · rename_i ks hk
      split at e
      · rename_i hl
        cases e
        rcases e3 with ⟨z, _⟩ | ⟨_, l, hH, hr⟩
        · cases z
        · have ek := asKeys_eq hk
          obtain ⟨b, vs, eb, hb, hrb⟩ := hy
          subst eb
          obtain ⟨xs, hxs⟩ := hy2 b rfl
          rw [ek] at hrb
          have e2 := reps_kV hrb
          subst e2
          refine ⟨a, .dT (putK l ks v), e1, r.write ho h e1 (.inr ⟨rfl, _, upd_same, ?_⟩), fun Q q => ⟨a, b, l, ks, xs, rfl, rfl, hH, hb.sq r.sub, hxs, by rw [hr.length]; exact hl, q⟩⟩
          rw [ek]; exact RepT.put hr hv
      · cases e
    · cases e
  · cases e
end
section
variable {X : Cx} {E : XK} {md : Md} {os : List Bool} {a b e c ie : Expr} {st : Stmt} {pos : Pos} {fe fi : EM D} {x : Str} {px : Pos}
def rT {α β : Type} : Gh → Ev → L2.St → Hp → Hp → α → β → Prop := fun _ _ _ _ _ _ _ => True
theorem WS.drop {K : Frag} {os : List Bool} {g : Gh} {σ : L2.St} {F : Hp} {Dn : Ends} {α : Type} {f : EM α} {ρ : Ev} (w : WS K E md os g F Dn (sDrop f ρ)) (hσ : ∀ ρ' H' F', R K g os ρ' σ H' F' → FLe F F' → True) : WG K E os g σ F rT (fun (_ : Unit) H => Dn.nx σ H) (f ρ) := by
  unfold sDrop at w
  cases q : f ρ with
  | ok p =>
    obtain ⟨d, ρ'⟩ := p
    rw [q] at w
    exact fun _ H' F' hR le _ => w σ H' F' hR le
  | exc x => rw [q] at w; exact w
  | bad => rw [q] at w; exact w
theorem WG.upd1 {K : Frag} {E : XK} {os : List Bool} {g : Gh} {σ : L2.St} {F : Hp} {ρ : Ev} {β : Type} {rl : Gh → Ev → L2.St → Hp → Hp → D → β → Prop} {Q : β → Hp → Prop} {i : Nat} {gm : D → Res (D × D)} (hn : ∀ x, Noex (gm x)) (w : WG K E os g σ F rl Q (eUpd i gm ρ)) :
    ∃ x x' d, ρ[i]? = some (some x) ∧ gm x = .ok (x', d) ∧ WG K E os g σ F rl Q (.ok (d, ρ.set i (some x'))) := by
  unfold eUpd at w
  split at w
  · rename_i x q
    split at w
    · rename_i x' r q2
      exact ⟨x, x', r, q, q2, w⟩
    · rename_i e q2
      exact absurd q2 (hn _ _)
    · exact w.elim
  · exact w.elim
theorem res2_nx {r : Res D} (h : Noex r) : Noex (res2 r) := fun e q => by
  unfold res2 at q
  split at q
  · cases q
  · exact h _ rfl
  · cases q
theorem res2_ok {r : Res D} {x d : D} (h : res2 r = .ok (x, d)) : r = .ok x := by
  unfold res2 at h
  split at h <;> cases h
  rfl
theorem setD1_nx (x q d : D) : Noex (setD1 x q d) := fun e h => by
  unfold setD1 at h
  split at h <;> first | cases h | (split at h <;> first | cases h | (split at h <;> cases h))
theorem setDT_nx (x q d : D) : Noex (setDT x q d) := fun e h => by
  unfold setDT at h
  split at h <;> first | cases h | (split at h <;> first | cases h | (split at h <;> cases h))
/-! keys -/
theorem dk_tup {es : List Expr} {x1 : Nat} {fr : EM (List D)} (h : PA X es (sA X.K E os fr)) : PE X (.Tuple es x1 pos) (tG X.K E os (rK X.K) (eL gTup fr)) := PE.weak (pe_tup h) fun σ H Q ⟨g, ρ, F, r, w⟩ => by
  refine tG.bind r w fun ds vs ρ1 H1 F1 hR1 le1 rx w1 => ?_
  obtain ⟨d, ed, w3⟩ := w1.lift2 (gTup_noex _)
  unfold gTup at ed
  split at ed
  · rename_i hl
    cases ed
    refine ⟨by rw [Reps.length rx]; exact hl, fun p hp => ?_⟩
    exact w3 (.ref p) _ _ (hR1.new hp (fun _ _ z => nomatch z)) (FLe.upd (hR1.none_of hp)) ⟨⟨p, vs, rfl, .inl upd_same, Reps.mono (FLe.upd (hR1.none_of hp)) _ _ rx⟩, fun b e => by cases e; exact ⟨vs, upd_same⟩⟩
  · cases ed
theorem dk_var {i : Nat} {x : Str} {g0 : Md} (h : PE X (.Name x pos) (tVar i)) (ho : os[i]? = some false) : PE X (.Name x pos) (fun σ H Q => ∃ g ρ F, R X.K g os ρ σ H F ∧ i ∈ g.kt ∧ WG X.K E os g σ F (rK X.K) Q (eVar i ρ)) := PE.weak h fun σ H Q ⟨g, ρ, F, r, hk, w⟩ => by
  unfold eVar at w
  split at w
  · rename_i d q
    obtain ⟨v, e1, e2⟩ := r.fz i d ho q
    exact ⟨v, e1, w v H F r FLe.refl ⟨e2, fun b e => by subst e; exact r.kt i b hk e1⟩⟩
  · exact w.elim
/-- x[i] = e, x an own list, or an own dict with ints and texts for keys -/
theorem ds_put {i : Nat} (ho : os[i]? = some true) (hx : PE X a (tVar i)) (he : PE X e (sD X.K E os fe)) (hi : PE X ie (sV X.K E os fi)) (hu : X.A.units + 1 < cLine)
    (hs : ∀ {te : TE} {g : TG}, PE X e te → PG X (.Subscript a ie px) g → PS X st (tAsg te g))
    (ha : ∀ v, assign (.Subscript a ie px) X.env v = (do
      let ov ← holding [v] (eval a X.env)
      let iv ← holding [v, ov] (eval ie X.env)
      standAt px
      holding [v, ov, iv] (setItem ov iv v)
      release [v, ov, iv] []) := by intro _; rfl) : PS X st (tS X.K E md os os (sPut i setD1 fe fi)) :=
  PS.weak (hs he (pg_sub hx hi (set_1 hu) ha)) fun σ H Q ⟨g, ρ, F, r, hp, w⟩ => by
    refine tG.bind r (w.drop fun _ _ _ _ _ => trivial) fun d v ρ1 H1 F1 hR1 le1 rv w1 => ?_
    obtain ⟨x0, h0, w2⟩ := w1.var
    obtain ⟨ov, hov, _⟩ := hR1.view h0
    refine ⟨ov, hov, tG.bind hR1 w2 fun q y ρ2 H2 F2 hR2 le2 ry w3 => ?_⟩
    obtain ⟨x1, x', d', h1, e1, w4⟩ := WG.upd1 (fun _ => res2_nx (setD1_nx _ _ _)) w3
    obtain ⟨a, o, q1, q2, q3⟩ := hR2.set1 ho h1 (res2_ok e1) ry (Rep.mono le2 _ _ rv)
    rw [q1] at hov
    cases hov
    exact q3 _ (w4 () _ F2 q2 FLe.refl trivial)
/-- x[i] = e, x an own dict with tuples for keys -/
theorem ds_putT {i : Nat} (ho : os[i]? = some true) (hx : PE X a (tVar i)) (he : PE X e (sD X.K E os fe)) (hi : PE X ie (tG X.K E os (rK X.K) fi)) (hu : X.A.units + 1 < cLine)
    (hs : ∀ {te : TE} {g : TG}, PE X e te → PG X (.Subscript a ie px) g → PS X st (tAsg te g))
    (ha : ∀ v, assign (.Subscript a ie px) X.env v = (do
      let ov ← holding [v] (eval a X.env)
      let iv ← holding [v, ov] (eval ie X.env)
      standAt px
      holding [v, ov, iv] (setItem ov iv v)
      release [v, ov, iv] []) := by intro _; rfl) : PS X st (tS X.K E md os os (sPut i setDT fe fi)) :=
  PS.weak (hs he (pg_sub hx hi (set_T hu) ha)) fun σ H Q ⟨g, ρ, F, r, hp, w⟩ => by
    refine tG.bind r (w.drop fun _ _ _ _ _ => trivial) fun d v ρ1 H1 F1 hR1 le1 rv w1 => ?_
    obtain ⟨x0, h0, w2⟩ := w1.var
    obtain ⟨ov, hov, _⟩ := hR1.view h0
    refine ⟨ov, hov, tG.bind hR1 w2 fun q y ρ2 H2 F2 hR2 le2 ry w3 => ?_⟩
    obtain ⟨x1, x', d', h1, e1, w4⟩ := WG.upd1 (fun _ => res2_nx (setDT_nx _ _ _)) w3
    obtain ⟨a, o, q1, q2, q3⟩ := hR2.setT ho h1 (res2_ok e1) ry.1 ry.2 (Rep.mono le2 _ _ rv)
    rw [q1] at hov
    cases hov
    exact q3 _ (w4 () _ F2 q2 FLe.refl trivial)
end
/-! ### a comprehension over a dict's keys -/
section
variable {X : Cx} {E : XK} {os : List Bool} {tg elt : Expr} {ifs : List Expr} {pos npos : Pos} {x : Str}
def Lkd (σ : L2.St) (H : Hp) (i : Nat) : Prop := ∃ a od u, σ[i]? = some (some (.ref a)) ∧ H a = some (.frz od u)
theorem di_keysL {i : Nat} (hv : PE X (.Name x npos) (tVar i)) (ho : os[i]? = some false) : PI X tg (.Name x npos) (fun σ H Q => Lkd σ H i ∧ sI X.K E os (e1 gKeys (eVar i)) σ H Q) := PI.weak (pi_keys hv) fun σ H Q ⟨⟨a, od, u, hs, hl⟩, g, ρ, F, r, w⟩ => by
  obtain ⟨d, h1, w1⟩ := w.var
  obtain ⟨v, e1, e2⟩ := r.fz i d ho h1
  rw [hs] at e1
  cases e1
  refine ⟨.ref a, hs, a, od, rfl, ?_⟩
  cases d with
  | dic tt kvs =>
    have w2 : ∀ J H' F', R X.K g os ρ σ H' F' → FLe F F' → DL.rI X.K g ρ σ H' F' (kvs.map (·.1)) J → Q J H' := w1
    obtain ⟨a', ea, e2⟩ := e2
    cases ea
    rcases e2 with ⟨_, l, hf, hk⟩ | ⟨_, l, hf, hk⟩
    · rcases r.sub a _ hf with hh | ⟨_, ob, hh⟩ <;> rw [hl] at hh <;> cases hh
      exact .inl ⟨l, hl, w2 _ H F r FLe.refl (ItD.keys (fun os' ρ' σ' H' F' r' le => r.frz_stays hl hf r' le) hk)⟩
    · rcases r.sub a _ hf with hh | ⟨_, ob, hh⟩ <;> rw [hl] at hh <;> cases hh
      exact .inr ⟨l, hl, w2 _ H F r FLe.refl (ItD.keysT (fun os' ρ' σ' H' F' r' le => r.frz_stays hl hf r' le) hk)⟩
  | _ => exact w1.elim
theorem PE.or {e : Expr} {t t' : TE} (h : PE X e t) (h' : PE X e t') : PE X e (fun σ H Q => t σ H Q ∨ t' σ H Q) := ⟨fun pins s σ H Q I q => q.elim (h.run pins s σ H Q I) (h'.run pins s σ H Q I)⟩
theorem WG.lockO {K : Frag} {g : Gh} {σ : L2.St} {F : Hp} {Q : VK} {a : Addr} {u : HO} {od : Obj} (hn : ∀ ob v, (a, ob, v) ∉ g.lk) (hn0 : ∀ ob v, g.H0 a ≠ some (.frz ob v)) : ∀ {r : Res (D × Ev)}, (∀ x, r ≠ .exc x) → WG K E os g σ F (rO K os) Q r →
    WG K E os { g with lk := (a, od, u) :: g.lk } σ F (rO K os) (fun v H' => H' a = some (.frz od u) ∧ Q v (upd H' a u)) r
  | .ok (d, ρ'), _, h => fun b H' F' hR le ⟨p, ep, fr⟩ => by
    obtain ⟨hd, hf⟩ := hR.lock a od u List.mem_cons_self
    have ne : p ≠ a := fun z => by subst z; have := fr.f; rw [hf] at this; cases this
    exact ⟨hd, h b _ F' (hR.unlockd hn hn0) le ⟨p, ep, ⟨fr.f, fr.own.heap (upd_ne ne), fr.h0, fr.ne⟩⟩⟩
  | .exc x, hx, h => absurd rfl (hx x)
  | .bad, _, h => h
theorem eComp_nx {vs : List Nat} {f : EM (List D)} {t : Tgt} {c : EM Bool} {e : EM D} {ρ : Ev} : ∀ x, eComp vs f t c e ρ ≠ .exc x := fun x h => by
  unfold eComp at h
  split at h
  · split at h <;> cases h
  · cases h
theorem do_lcK {i : Nat} {scope : Scope} {own : List (Str × Nat)} {t : Tgt} {c : EM Bool} {e : EM D} {gt : TG} (hc : X.calm = true) (hN : X.N.Nodup) (hv0 : PE X (.Name x npos) (tVar i)) (ho : os[i]? = some false) (ok : BlkOk X.N X.env.scope scope own)
    (hg : ∀ (s : Shared) (H : Hp) (C : Addr) (cl : List (Str × Addr)) (fp : List Addr), PG (X.blk s H scope (compEnvC scope cl C X.env) fp) tg gt)
    (ht : ∀ (s : Shared) (H : Hp) (C : Addr) (cl : List (Str × Addr)) (fp : List Addr), PTs (X.blk s H scope (compEnvC scope cl C X.env) fp) ifs (sB X.K E os c))
    (he : ∀ (s : Shared) (H : Hp) (C : Addr) (cl : List (Str × Addr)) (fp : List Addr), PE (X.blk s H scope (compEnvC scope cl C X.env) fp) elt (sD X.K E os e))
    (hr : RawT X.K os (own.map (·.2)) gt t) (hv : ∀ v ∈ own.map (·.2), os[v]? = some false) (hs : ∀ x', foldedSetIterable (.Name x npos) X.env x' = pure x' := by intro _; rfl) :
    PE X (.ListComp elt [⟨tg, .Name x npos, ifs, 0⟩] scope pos) (sO X.K E os (eComp (own.map (·.2)) (e1 gKeys (eVar i)) t c e)) :=
  PE.weak (PE.or (pe_lock (pe_lc hc hN (di_keysL (E := E) hv0 ho) ok hg ht he hs)) (pe_lc hc hN (di_keysL (E := E) hv0 ho) ok hg ht he hs)) fun σ H Q ⟨g, ρ, F, r, w⟩ => by
    cases q : eVar i ρ with
    | exc x =>
      unfold eVar at q
      split at q <;> cases q
    | bad =>
      unfold eComp e1 eBind at w
      rw [q] at w; exact w.elim
    | ok p =>
      obtain ⟨d, ρ'⟩ := p
      obtain ⟨h1, rfl⟩ := eVar_ok q
      obtain ⟨v, e1', e2⟩ := r.fz i _ ho h1
      cases d with
      | dic tt kvs =>
        obtain ⟨a, ea, e2⟩ := e2
        subst ea
        have go : ∀ u, F a = some u → Mut (some u) → tLockE (tLc (fun σ H Q => Lkd σ H i ∧ sI X.K E os (DL.e1 gKeys (eVar i)) σ H Q) gt (sB X.K E os c) (sD X.K E os e) (own.map (·.2))) σ H Q ∨ tLc (fun σ H Q => Lkd σ H i ∧ sI X.K E os (DL.e1 gKeys (eVar i)) σ H Q) gt (sB X.K E os c) (sD X.K E os e) (own.map (·.2)) σ H Q := fun u hf mu => by
          rcases r.sub a _ hf with hh | ⟨_, od, hh⟩
          · left
            obtain ⟨n1, n2⟩ := r.lock_facts hh hf mu
            exact ⟨a, u, hh, mu, fun od => ⟨⟨a, od, u, e1', upd_same⟩, comp_read hv hr ⟨_, ρ', F, r.lockd od hh hf mu, WG.lockO n1 n2 eComp_nx w⟩⟩⟩
          · right
            exact ⟨⟨a, od, u, e1', hh⟩, comp_read hv hr ⟨g, ρ', F, r, w⟩⟩
        rcases e2 with ⟨_, l, hf, hk⟩ | ⟨_, l, hf, hk⟩
        · exact go _ hf trivial
        · exact go _ hf trivial
      | _ =>
        unfold eComp DL.e1 eBind at w
        rw [q] at w; exact w.elim
end
end DL
/-! DL12: methods, new dicts, chains, pairs, sorted. -/
namespace DL
open PySem PySem.Spec L2
set_option autoImplicit false
section
variable {X : Cx} {E : XK} {md : Md} {os : List Bool} {a b c e : Expr} {es : List Expr} {st : Stmt} {pos apos : Pos} {fa fb fc : EM D} {x : Str}
/-! ### methods of an own list -/
/-- xs.m(e): the list's items, the argument; the new items, what is told -/
def isLst : D → Bool
  | .lst _ => true
  | _ => false
def isDic : D → Bool
  | .dic _ _ => true
  | _ => false
def eMth (i : Nat) (m : List D → D → Res (List D × D)) (f : EM D) : EM D := eBind (eVar i) fun x0 => if isLst x0 = true then (eBind f fun q => eUpd i fun x => match x with
  | .lst xs => (match m xs q with
    | .ok (ys, d) => .ok (.lst ys, d)
    | _ => .bad)
  | _ => .bad) else fun _ => .bad
def eMth0 (i : Nat) (m : List D → Res (List D × D)) : EM D := eUpd i fun x => match x with
  | .lst xs => (match m xs with
    | .ok (ys, d) => .ok (.lst ys, d)
    | _ => .bad)
  | _ => .bad
def appendD (xs : List D) (q : D) : Res (List D × D) := if xs.length < sizeLine then .ok (xs ++ [q], .non) else .bad
def popD (xs : List D) : Res (List D × D) := match xs[xs.length - 1]? with
  | some d => .ok (xs.dropLast, d)
  | none => .bad
def popAtD (xs : List D) (q : D) : Res (List D × D) := match q with
  | .int i => if -(2 ^ 63) ≤ i ∧ i < 2 ^ 63 then (match seqIndex? i xs.length with
    | some k => (match xs[k]? with
      | some d => .ok (xs.eraseIdx k, d)
      | none => .bad)
    | none => .bad) else .bad
  | _ => .bad
def reverseD (xs : List D) : Res (List D × D) := .ok (xs.reverse, .non)
/-- a method's rule by data -/
def MthOk (K : Frag) (r : V → List V → Hp → VK → Prop) (m : List D → D → Res (List D × D)) : Prop := ∀ (F H : Hp) (p : Addr) (xs ys : List D) (vs : List V) (q d : D) (y : V) (Q : VK), H p = some (.lst vs) → Reps K F xs vs → Rep K F q y → m xs q = .ok (ys, d) →
  (∀ ws u, Reps K F ys ws → Rep K F d u → Q u (upd H p (.lst ws))) → r (.ref p) [y] H Q
def MthOk0 (K : Frag) (r : V → List V → Hp → VK → Prop) (m : List D → Res (List D × D)) : Prop := ∀ (F H : Hp) (p : Addr) (xs ys : List D) (vs : List V) (d : D) (Q : VK), H p = some (.lst vs) → Reps K F xs vs → m xs = .ok (ys, d) →
  (∀ ws u, Reps K F ys ws → Rep K F d u → Q u (upd H p (.lst ws))) → r (.ref p) [] H Q
theorem append_ok {K : Frag} : MthOk K rAppend appendD := fun F H p xs ys vs q d y Q hp hr hy e h => by
  unfold appendD at e
  split at e
  · cases e
    exact ⟨p, vs, y, rfl, rfl, hp, by rw [hr.length]; assumption, h _ _ (hr.append (.one hy)) rfl⟩
  · cases e
theorem dropLast_reps {K : Frag} {F : Hp} {xs : List D} {vs : List V} (h : Reps K F xs vs) : Reps K F xs.dropLast vs.dropLast := by
  rw [List.dropLast_eq_take, List.dropLast_eq_take, h.length]
  exact h.take _
theorem pop_ok {K : Frag} : MthOk0 K rPop popD := fun F H p xs ys vs d Q hp hr e h => by
  unfold popD at e
  split at e
  · rename_i z hz
    cases e
    obtain ⟨v, hv, rv⟩ := hr.get hz
    exact ⟨p, vs, v, rfl, rfl, hp, by rw [hr.length]; exact hv, h _ _ (dropLast_reps hr) rv⟩
  · cases e
theorem popAt_ok {K : Frag} : MthOk K rPopAt popAtD := fun F H p xs ys vs q d y Q hp hr hy e h => by
  unfold popAtD at e
  split at e
  · rename_i i
    split at e
    · rename_i hi
      split at e
      · rename_i k hk
        split at e
        · rename_i z hz
          cases e
          obtain ⟨v, hv, rv⟩ := hr.get hz
          cases (show y = .int i from hy)
          exact ⟨p, vs, i, k, v, rfl, rfl, hp, hi.1, hi.2, by rw [hr.length]; exact hk, hv, h _ _ (hr.eraseIdx k) rv⟩
        · cases e
      · cases e
    · cases e
  · cases e
theorem reverse_ok {K : Frag} : MthOk0 K rReverse reverseD := fun F H p xs ys vs d Q hp hr e h => by
  cases e
  exact ⟨p, vs, rfl, rfl, hp, h _ _ hr.reverse rfl⟩
theorem mth_nx {m : List D → D → Res (List D × D)} {q x : D} : Noex (match x with
  | .lst xs => (match m xs q with
    | .ok (ys, d) => Res.ok (D.lst ys, d)
    | _ => .bad)
  | _ => .bad) := fun e h => by
  split at h
  · split at h <;> cases h
  · cases h
theorem mth_nx0 {m : List D → Res (List D × D)} {x : D} : Noex (match x with
  | .lst xs => (match m xs with
    | .ok (ys, d) => Res.ok (D.lst ys, d)
    | _ => .bad)
  | _ => .bad) := fun e h => by
  split at h
  · split at h <;> cases h
  · cases h
theorem de_mth {i : Nat} {name : Str} {id : String} {r : V → List V → Hp → VK → Prop} {m : List D → D → Res (List D × D)} (ho : os[i]? = some true) (hx : PE X a (tVar i)) (he : PE X e (sD X.K E os fa)) (hm : MthOk X.K r m)
    (hs : ∀ {t : TA}, PA X [e] t → PE X (.Call (.Attribute a name apos) [e] [] pos) (tBM X.K "list" r (tVar i) t)) (hs2 : starEach [e] X.env = (false, eval e X.env) :: starEach [] X.env := by rfl) :
    PE X (.Call (.Attribute a name apos) [e] [] pos) (sD X.K E os (eMth i m fa)) := PE.weak (hs (pa_cons he pa_nil hs2)) fun σ H Q ⟨g, ρ, F, r0, w⟩ => by
  obtain ⟨x0, h0, w1⟩ := w.var
  obtain ⟨a0, hov, _, own0, _⟩ := r0.ow i x0 ho h0
  cases x0 with
  | lst xs0 =>
    rw [if_pos (show isLst (D.lst xs0) = true from rfl)] at w1
    obtain ⟨vs0, hvs0, _⟩ := own0
    refine ⟨.ref a0, hov, .inl ⟨rfl, vs0, .inl (.inl hvs0)⟩, tG.bind r0 w1 fun q y ρ2 H2 F2 hR2 le2 ry w3 => ?_⟩
    obtain ⟨x1, x', d', h1, e1, w4⟩ := WG.upd1 (fun _ => mth_nx) w3
    split at e1
    · rename_i xs
      split at e1
      · rename_i ys d hm'
        cases e1
        obtain ⟨a1, q1, q2, ⟨vs, q3, q4⟩, _⟩ := hR2.ow i _ ho h1
        rw [hov] at q1
        cases q1
        refine hm F2 H2 a0 xs ys vs q d' y Q q3 q4 ry hm' fun ws u k1 k2 => ?_
        exact w4 u _ F2 (hR2.write ho h1 hov ⟨ws, upd_same, k1⟩) FLe.refl k2
      · cases e1
    · cases e1
  | _ => exact w1.elim
theorem de_mth0 {i : Nat} {name : Str} {id : String} {r : V → List V → Hp → VK → Prop} {m : List D → Res (List D × D)} (ho : os[i]? = some true) (hx : PE X a (tVar i)) (hm : MthOk0 X.K r m)
    (hs : PE X (.Call (.Attribute a name apos) [] [] pos) (tBM0 X.K "list" r (tVar i))) :
    PE X (.Call (.Attribute a name apos) [] [] pos) (sD X.K E os (eMth0 i m)) := PE.weak hs fun σ H Q ⟨g, ρ, F, r0, w⟩ => by
  obtain ⟨x1, x', d', h1, e1, w4⟩ := WG.upd1 (fun _ => mth_nx0) w
  split at e1
  · rename_i xs
    split at e1
    · rename_i ys d hm'
      cases e1
      obtain ⟨a1, q1, q2, ⟨vs, q3, q4⟩, _⟩ := r0.ow i _ ho h1
      refine ⟨.ref a1, q1, .inl ⟨rfl, vs, .inl (.inl q3)⟩, hm F H a1 xs ys vs d' Q q3 q4 hm' fun ws u k1 k2 => ?_⟩
      exact w4 u _ F (r0.write ho h1 q1 ⟨ws, upd_same, k1⟩) FLe.refl k2
    · cases e1
  · cases e1
/-! ### d.pop(k) of an own dict with ints and texts for keys -/
def dpopD (x q : D) : Res (D × D) := match x with
  | .dic false kvs => (match asKey q with
    | some _ => (match lookD kvs q with
      | some d => .ok (.dic false (dropD kvs q), d)
      | none => .bad)
    | none => .bad)
  | _ => .bad
theorem dpopD_nx (x q : D) : Noex (dpopD x q) := fun e h => by
  unfold dpopD at h
  split at h
  · split at h
    · split at h <;> cases h
    · cases h
  · cases h
def eDPop (i : Nat) (f : EM D) : EM D := eBind (eVar i) fun x0 => if isDic x0 = true then (eBind f fun q => eUpd i fun x => dpopD x q) else fun _ => .bad
theorem de_dpop {i : Nat} (ho : os[i]? = some true) (hx : PE X a (tVar i)) (he : PE X e (sV X.K E os fa)) (m : M1 X a "pop" apos e pos) : PE X (.Call (.Attribute a "pop" apos) [e] [] pos) (sD X.K E os (eDPop i fa)) := PE.weak (pe_dpop1 hx he m) fun σ H Q ⟨g, ρ, F, r0, w⟩ => by
  obtain ⟨x0, h0, w1⟩ := w.var
  obtain ⟨a0, hov, _, own0, _⟩ := r0.ow i x0 ho h0
  cases x0 with
  | dic t0 kvs0 =>
    rw [if_pos (show isDic (D.dic t0 kvs0) = true from rfl)] at w1
    have isd : IsD H a0 := by
      rcases own0 with ⟨_, l, z, _⟩ | ⟨_, l, z, _⟩
      · exact .inl ⟨l, .inl z⟩
      · exact .inr ⟨l, .inl z⟩
    refine ⟨.ref a0, hov, a0, rfl, isd, tG.bind r0 w1 fun q y ρ2 H2 F2 hR2 le2 ry w3 => ?_⟩
    obtain ⟨x1, x', d', h1, e1, w4⟩ := WG.upd1 (fun _ => dpopD_nx _ _) w3
    unfold dpopD at e1
    split at e1
    · rename_i kvs
      split at e1
      · rename_i k hk
        split at e1
        · rename_i d hd
          cases e1
          obtain ⟨a1, q1, q2, q3, _⟩ := hR2.ow i _ ho h1
          rw [hov] at q1
          cases q1
          rcases q3 with ⟨_, l, hH, hr⟩ | ⟨z, _⟩
          · have ek := asKey_eq hk
            have ey := key_view hk ry
            rw [ek] at hd
            rcases hr.look (k := k) with ⟨z, _⟩ | ⟨d2, v2, z1, z2, z3⟩
            · rw [hd] at z; cases z
            · rw [hd] at z1
              cases z1
              refine ⟨l, k, v2, hH, ey, z2, w4 v2 _ F2 (hR2.write ho h1 hov (.inl ⟨rfl, _, upd_same, ?_⟩)) FLe.refl z3⟩
              rw [ek]; exact hr.drop
          · cases z
        · cases e1
      · cases e1
    · cases e1
  | _ => exact w1.elim
/-! ### new dicts -/
theorem do_newK : PE X (.Dict [] [] pos) (sO X.K E os (eRet (.dic false []))) := PE.weak pe_dnewK fun σ H Q ⟨g, ρ, F, r0, w⟩ => fun p hp =>
  w (.ref p) _ F (r0.laid hp) FLe.refl ⟨p, rfl, Free.new r0 hp (.inl ⟨rfl, [], upd_same, rfl⟩)⟩
theorem do_newT : PE X (.Dict [] [] pos) (sO X.K E os (eRet (.dic true []))) := PE.weak pe_dnewT fun σ H Q ⟨g, ρ, F, r0, w⟩ => fun p hp =>
  w (.ref p) _ F (r0.laid hp) FLe.refl ⟨p, rfl, Free.new r0 hp (.inr ⟨rfl, [], upd_same, rfl⟩)⟩
/-! ### a op b op c -/
def eChain {α : Type} (g1 : D → D → Res Bool) (g2 : D → D → Res Bool) (fa fb fc : EM D) : EM Bool := eBind fa fun x => eBind fb fun y => eBind (eLift (g1 x y)) fun k => if k = true then (eBind fc fun z => eLift (g2 y z)) else eRet false
theorem dt_chain {op op' : CmpOp} {r r' : R2} {g1 g2 : D → D → Res Bool} (ho : OpR X (compareOp op) r) (ho' : OpR X (compareOp op') r') (hg : Op2B X.K os r g1) (hg' : Op2B X.K os r' g2) (hn : ∀ x y, Noex (g1 x y)) (hn' : ∀ x y, Noex (g2 x y)) (ha : PE X a (sD X.K E os fa)) (hb : PE X b (sD X.K E os fb)) (hc : PE X c (sV X.K E os fc))
    (hm : lastMarks [op, op'] [b, c] = false := by with_unfolding_all rfl) : PT X (.Compare a [op, op'] [b, c] pos) (sB X.K E os (eChain (α := Unit) g1 g2 fa fb fc)) := PT.weak (pt_chain ho ho' ha hb hc hm) fun σ H Q ⟨g, ρ, F, hR, w⟩ => by
  refine tG.bind hR w fun dx x ρ1 H1 F1 hR1 le1 rx w1 => ?_
  refine tG.bind hR1 w1 fun dy y ρ2 H2 F2 hR2 le2 ry w2 => ?_
  have w2' : WG X.K E os g σ F2 rB Q ((eBind (eLift (g1 dx dy)) fun k => if k = true then (eBind fc fun z => eLift (g2 dy z)) else eRet false) ρ2) := w2
  cases q : g1 dx dy with
  | exc e => exact absurd q (hn _ _ e)
  | bad =>
    unfold eBind eLift at w2'
    rw [q] at w2'
    exact w2'.elim
  | ok k =>
    unfold eBind eLift at w2'
    rw [q] at w2'
    refine hg g ρ2 σ H2 F2 x y dx dy k _ hR2 (Rep.view hR2.sub (Rep.mono le2 _ _ rx)) (Rep.view hR2.sub ry) q fun H' F' hR3 le3 => ⟨k, rfl, ?_⟩
    cases k with
    | false =>
      rw [if_neg (by decide)]
      exact ⟨false, rfl, (show WG X.K E os g σ F2 rB Q (.ok (false, ρ2)) from w2') false H' F' hR3 le3 rfl⟩
    | true =>
      rw [if_pos rfl]
      have w3 : WG X.K E os g σ F' rB Q ((eBind fc fun z => eLift (g2 dy z)) ρ2) := WG.mono le3 w2'
      refine tG.bind hR3 w3 fun dz z ρ4 H4 F4 hR4 le4 rz w4 => ?_
      obtain ⟨d, ed, w5⟩ := w4.lift2 (hn' _ _)
      exact hg' g ρ4 σ H4 F4 y z dy dz d _ hR4 (Rep.view hR4.sub (Rep.mono (le3.trans le4) _ _ ry)) rz ed fun H' F' q l => ⟨_, rfl, w5 _ H' F' q l rfl⟩
/-! ### a, b = x, y -/
def sPar (i j : Nat) (f : EM (List D)) : SM := fun ρ => match f ρ with
  | .ok ([d, e], ρ') => .ok (.nx, (ρ'.set i (some d)).set j (some e))
  | .ok _ => .bad
  | .exc x => .exc x
  | .bad => .bad
theorem ds_par {i j : Nat} {f : EM (List D)} (hs : ∀ {t : TA}, PA X [a, b] t → PS X st (tPar i j t)) (ha : PA X [a, b] (sA X.K E os f)) (hi : i ∉ md.pp) (hj : j ∉ md.pp) (hki : i ∉ md.kt) (hkj : j ∉ md.kt) : PS X st (tS X.K E md os ((os.set i false).set j false) (sPar i j f)) := PS.weak (hs ha) fun σ H Q ⟨g, ρ, F, r, hp, w⟩ => by
  refine ⟨g, ρ, F, r, ?_⟩
  unfold sPar at w
  cases q : f ρ with
  | ok p =>
    obtain ⟨ds, ρ'⟩ := p
    rw [q] at w
    intro vs H' F' hR le hv
    cases ds with
    | nil => exact w.elim
    | cons d ds =>
      cases ds with
      | nil => exact w.elim
      | cons d2 ds =>
        cases ds with
        | nil =>
          obtain ⟨v, r1, e1, h1, h2⟩ := hv
          obtain ⟨v2, r2, e2, h3, h4⟩ := h2
          cases (show r2 = [] from h4)
          subst e2
          subst e1
          exact ⟨v, v2, rfl, w _ H' F' ((hR.put (pin_not hp hi) (fun z => absurd z (kt_not hp hki)) h1).put (pin_not hp hj) (fun z => absurd z (kt_not hp hkj)) h3) le⟩
        | cons _ _ => exact w.elim
  | exc x => rw [q] at w; exact w
  | bad => rw [q] at w; exact w
/-! ### sorted, ints -/
def intSort (l : List Int) : List Int := l.mergeSort fun a b => decide (a ≤ b)
theorem intSort_uniq {l l' : List Int} (p : l'.Perm l) (s : l'.Pairwise (· ≤ ·)) : l' = intSort l := by
  have h1 : (intSort l).Perm l := List.mergeSort_perm _ _
  have h2 : (intSort l).Pairwise fun a b => decide (a ≤ b) = true := List.pairwise_mergeSort (fun a b c h k => by simp at h k ⊢; omega) (fun a b => by simp; omega) l
  have h3 : (intSort l).Pairwise (· ≤ ·) := h2.imp fun h => by simpa using h
  exact List.Perm.eq_of_pairwise (fun a b _ _ h k => by omega) s h3 (p.trans h1.symm)
def sortedI (d : D) : Res D := match d with
  | .lst xs => (match intsOf xs with
    | some ns => if ns.length < 64 then .ok (.lst ((intSort ns).map D.int)) else .bad
    | none => .bad)
  | .dic false kvs => (match intsOf (kvs.map (·.1)) with
    | some ns => if ns.length < 64 then .ok (.lst ((intSort ns).map D.int)) else .bad
    | none => .bad)
  | _ => .bad
theorem sortedI_nx (d : D) : Noex (sortedI d) := fun e h => by
  unfold sortedI at h
  split at h <;> first | cases h | (split at h <;> first | cases h | (split at h <;> cases h))
def rSortDI : List V → Hp → VK → Prop := fun xs H Q => ∃ (a : Addr) (kvs : List (Key × V)) (ks : List Int), xs = [.ref a] ∧ Rd H a (.dK kvs) ∧ kvs.map (·.1) = ks.map Sum.inl ∧ ks.length < 64 ∧
    ∀ (ys : List Int) (p : Addr), ys.Perm ks → ys.Pairwise (· ≤ ·) → H p = none → Q (.ref p) (upd H p (.lst (ys.map V.int)))
def rSortI (K : Frag) : List V → Hp → VK → Prop := fun xs H Q => rSorted K xs H Q ∨ rSortDI xs H Q
theorem call_sortI (hc : X.calm = true) : CallR X (.builtin "sorted") (rSortI X.K) := CallR.or cr_sorted (call_sortedDI hc)
theorem keys_ints {K : Frag} {F : Hp} : ∀ {kvs : List (D × D)} {l : List (Key × V)} {ns : List Int}, RepK K F kvs l → intsOf (kvs.map (·.1)) = some ns → l.map (·.1) = ns.map Sum.inl
  | [], l, ns, h, e => by
    cases (show l = [] from h)
    cases e
    rfl
  | (k, d) :: r, l, ns, h, e => by
    obtain ⟨k', v, r', e1, e2, _, h4⟩ := h
    subst e1
    subst e2
    cases k' with
    | inl i =>
      have e' : (intsOf (r.map (·.1))).map (i :: ·) = some ns := e
      obtain ⟨l, hl, el⟩ := Option.map_eq_some_iff.mp e'
      subst el
      rw [List.map_cons, List.map_cons, keys_ints h4 hl]
    | inr x => cases e
theorem sortedI_ok {K : Frag} : Op1 K os (fun v => rSortI K [v]) sortedI (rO K os) := by
  intro g ρ σ H F x dx d Q hR vx e q
  have fin : ∀ (ns ns' : List Int) (p : Addr), ns'.Perm ns → ns'.Pairwise (· ≤ ·) → H p = none → d = .lst ((intSort ns).map D.int) → Q (.ref p) (upd H p (.lst (ns'.map V.int))) := fun ns ns' p h1 h2 h3 h4 => by
    subst h4
    rw [intSort_uniq h1 h2]
    exact q (.ref p) _ F (hR.laid h3) FLe.refl ⟨p, rfl, Free.new hR h3 ⟨_, upd_same, Reps.ints⟩⟩
  unfold sortedI at e
  split at e
  · rename_i xs
    split at e
    · rename_i ns hns
      split at e
      · rename_i hl
        cases e
        obtain ⟨a, vs, ea, ha, hr⟩ := vx
        have := ints_reps hns hr
        subst this
        exact .inl ⟨a, ns, by rw [ea], ha, hl, fun ns' p h1 h2 h3 => fin ns ns' p h1 h2 h3 rfl⟩
      · cases e
    · cases e
  · rename_i kvs
    split at e
    · rename_i ns hns
      split at e
      · rename_i hl
        cases e
        obtain ⟨a, ea, h⟩ := vx
        rcases h with ⟨_, l, ha, hk⟩ | ⟨z, _⟩
        · exact .inr ⟨a, l, ns, by rw [ea], ha, keys_ints hk hns, hl, fun ns' p h1 h2 h3 => fin ns ns' p h1 h2 h3 rfl⟩
        · cases z
      · cases e
    · cases e
  · cases e
end
end DL
/-! DL13: what a generated proof rests on. -/
namespace DL
open PySem PySem.Spec L2
set_option autoImplicit false
/-- the top as the head tells it -/
structure Base (fa : List He.Fa) (fn : List He.DefD) (ex : Frag → Bool) (K : Frag) (mg : Str → Option Value) : Prop where
  h : ∃ h, K.In h ∧ h.Ns mainGlobals mg
  c : He.SaysD fa fn K
  e : ex K = true
/-- a def of the top keeps its promise -/
def Ok (P : Program) (w : World) (K : Frag) (mg : Str → Option Value) (base : Heap) (x : Str) (k : Nat) (ps : List Str) (as : List Bool) (rtm : Bool) (m : List D → Res (D × List D)) : Prop :=
  ∃ f fd, mg x = some (.ref f) ∧ PySem.W.keepIn K (.ref f) = true ∧ Binds K fd ps [] ∧ FnOk P w K mg base CX0 k f fd ps (spD K as rtm m)
def mkD (x : Str) (st : Stmt) : He.DefD := ⟨(x, none), x, x, defArgs st, defBody st, defScope st, [], []⟩
section
variable {P : Program} {w : World} {K : Frag} {mg : Str → Option Value} {base : Heap} {fa : List He.Fa} {fn : List He.DefD} {ex : Frag → Bool} {x : Str} {k : Nat} {ps : List Str} {as : List Bool} {rtm : Bool} {m : List D → Res (D × List D)}
theorem Base.free (c : Base fa fn ex K mg) (i : Nat) (h : fa[i]? = some (.free x)) : mg x = none := let ⟨_, X, G⟩ := c.h; He.free_ok X G (c.c.fact i h)
theorem Base.glo (c : Base fa fn ex K mg) (i : Nat) (h : fa[i]? = some (.glo x)) : mg x = some (.ref (He.ga K x)) := let ⟨_, X, G⟩ := c.h; He.glo_ok X G (c.c.fact i h)
theorem Base.bfun (c : Base fa fn ex K mg) {v : Value} (h : ∀ K, ex K = true → He.eqO (PySem.W.nsIn K mainGlobals x) (some (some v)) = true) : mg x = some v := let ⟨_, X, G⟩ := c.h; PySem.W.mg_of X G (He.eqO_ok (h K c.e))
theorem mkOk (c : Base fa fn ex K mg) (i j : Nat) {st : Stmt} (hd : fn[i]? = some (mkD x st)) (hj : fa[j]? = some (.glo x))
    (hb : ∀ (kV doc pm : Value) (an : Option Addr) (cdv ct : Value) (us : List Value), us.length = ps.length → bindArgs (PySem.W.fnOf x x (defArgs st) (defBody st) (defScope st) .none kV doc pm an cdv ct) ⟨us, []⟩ = pure (ps.zip us))
    (hf : ∀ {f fd}, FunD K x x (defArgs st) (defBody st) (defScope st) [] [] f fd → FnOk P w K mg base CX0 k f fd ps (spD K as rtm m)) : Ok P w K mg base x k ps as rtm m := by
  obtain ⟨fd, F⟩ := c.c.def_ i hd
  have F' : FunD K x x (defArgs st) (defBody st) (defScope st) [] [] (He.ga K x) fd := F
  exact ⟨He.ga K x, fd, c.glo j hj, F'.kp, F'.bindsN hb, hf F'⟩
theorem mkOk0 (c : Base fa fn ex K mg) (i j : Nat) {st : Stmt} (hd : fn[i]? = some (mkD x st)) (hj : fa[j]? = some (.glo x)) {N : List Str} (S : FnScope N ps (defScope st)) (hps : as.length = ps.length)
    (hb : ∀ (kV doc pm : Value) (an : Option Addr) (cdv ct : Value) (us : List Value), us.length = ps.length → bindArgs (PySem.W.fnOf x x (defArgs st) (defBody st) (defScope st) .none kV doc pm an cdv ct) ⟨us, []⟩ = pure (ps.zip us)) : Ok P w K mg base x (k + 1) ps as rtm (fun _ => .bad) :=
  mkOk c i j hd hj hb fun F => F.ok S (fun vs H Q E h => by
    obtain ⟨F, ds, ha, _⟩ := h
    rw [ha.l2, hps]) fun cdv A outer s H vs Q E hr h => by
    obtain ⟨F, ds, ha, hq⟩ := h
    exact hq.elim
def kOk (ks : List (Option Nat)) (os : List Bool) : Bool := ks.all fun o => match o with
  | some i => os[i]? == some true
  | none => true
theorem kOk_own {ks : List (Option Nat)} {os : List Bool} (h : kOk ks os = true) : ∀ i, some i ∈ ks → os[i]? = some true := fun i hi => by
  have := List.all_eq_true.mp h _ hi
  simpa using this
end
section
variable {X : Cx} {E : XK} {os : List Bool} {e : Expr} {es : List Expr} {pos p : Pos} {fa : EM D} {fr : EM (List D)} {ks : List (Option Nat)} {k k' : Nat} {ps : List Str} {m : List D → Res (D × List D)} {x : Str} {as : List Bool} {md : Md} {st : Stmt}
theorem dcall (h : Ok X.prog X.w X.K X.mg X.base x k ps as false m) (has : as = ks.map Option.isSome) (hr : Room k' X.A) (hle : k ≤ k') (hg : Gl X x)
    (ha : PA X (e :: es) (sC X.K E os ks fr)) (ho : kOk ks os = true) (hn : (ks.filterMap id).Nodup) (hdb : (x == ("__debug__" : Str)) = false := by decide) (he : starEach (e :: es) X.env = (false, eval e X.env) :: starEach es X.env := by rfl) (hpl : (backTo pos (starEach es X.env)).any (·.1) = false := by rfl) :
    PE X (.Call (.Name x p) (e :: es) [] pos) (sD X.K E os (eCall ks m fr)) := let ⟨f, fd, h1, h2, h3, h4⟩ := h
  de_call h4 has (hr.mono hle) hg h1 h2 h3 ha (kOk_own ho) hn hdb he hpl
theorem ocall (h : Ok X.prog X.w X.K X.mg X.base x k ps as true m) (has : as = ks.map Option.isSome) (hr : Room k' X.A) (hle : k ≤ k') (hg : Gl X x)
    (ha : PA X (e :: es) (sC X.K E os ks fr)) (ho : kOk ks os = true) (hn : (ks.filterMap id).Nodup) (hdb : (x == ("__debug__" : Str)) = false := by decide) (he : starEach (e :: es) X.env = (false, eval e X.env) :: starEach es X.env := by rfl) (hpl : (backTo pos (starEach es X.env)).any (·.1) = false := by rfl) :
    PE X (.Call (.Name x p) (e :: es) [] pos) (sO X.K E os (eCall ks m fr)) := let ⟨f, fd, h1, h2, h3, h4⟩ := h
  do_call h4 has (hr.mono hle) hg h1 h2 h3 ha (kOk_own ho) hn hdb he hpl
theorem hr_cls2 {k : Nat} {A : Around} (hr : Room k A) : A.units + 64 < cLine := by have := hr.un; omega
theorem hr_cls {k : Nat} {A : Around} (hr : Room k A) : A.units + 1 < cLine := by have := hr.un; omega
/-- y = [..]: the target is stored within -/
theorem ds_setW {i : Nat} {te : TE} (hs : PS X st (tAsg te (gName i))) (hw : ∀ σ H Q, sO X.K E os fa σ H Q → te σ H Q) (hi : i ∉ md.pp) (hk : i ∉ md.kt) : PS X st (tS X.K E md os (os.set i true) (sSet i fa)) := PS.weak hs fun σ H Q ⟨g, ρ, F, r, hp, w⟩ => by
  refine hw σ H _ ⟨g, ρ, F, r, ?_⟩
  unfold sSet at w
  cases q : fa ρ with
  | ok p =>
    obtain ⟨d, ρ'⟩ := p
    rw [q] at w
    intro v H' F' hR le ⟨a, ea, fr⟩
    subst ea
    exact w _ H' F' (hR.own (pin_not hp hi) (kt_not hp hk) fr.f fr.own fr.h0 fun j e _ h1 h2 => fr.ne j e h1 h2) le
  | exc x => rw [q] at w; exact w
  | bad => rw [q] at w; exact w
theorem ds_setW0 {i : Nat} {te : TE} (hs : PS X st (tAsg te (gName i))) (hw : ∀ σ H Q, sO X.K E os fa σ H Q → te σ H Q) (hi : i ∉ md.pp) (hk : i ∉ md.kt) : PS X st (tS X.K E md os (os.set i false) (sSet i fa)) := PS.weak (ds_setW hs hw hi hk) fun σ H Q ⟨g, ρ, F, r, hp, w⟩ => by
  refine ⟨g, ρ, F, r, hp, ?_⟩
  unfold sSet at w ⊢
  cases q : fa ρ with
  | ok p =>
    obtain ⟨d, ρ'⟩ := p
    rw [q] at w
    intro σ' H' F' hR le
    obtain ⟨F2, r2, le2⟩ := hR.freeze i (pin_not hp hi)
    rw [List.set_set] at r2
    exact w σ' H' F2 r2 (le.trans le2)
  | exc x => rw [q] at w; exact w
  | bad => rw [q] at w; exact w
end
/-! ### walks over what may be a dict -/
def forA (i : Nat) (t : Tgt) (b : SM) : SM := fun ρ => match ρ[i]? with
  | some (some (.dic _ _)) => noX (sFor (e1 gKeys (eVar i)) t b) ρ
  | _ => sFor (e1 gItems (eVar i)) t b ρ
def eCompA (vs : List Nat) (i : Nat) (t : Tgt) (c : EM Bool) (e : EM D) : EM D := fun ρ => match ρ[i]? with
  | some (some (.dic _ _)) => eComp vs (e1 gKeys (eVar i)) t c e ρ
  | _ => eComp vs (e1 gItems (eVar i)) t c e ρ
section
variable {X : Cx} {E : XK} {md : Md} {os os1 : List Bool} {tg elt : Expr} {body : List Stmt} {ifs : List Expr} {pos npos : Pos} {t : Tgt} {b : SM} {x : Str}
theorem ds_forA {i : Nat} (hp : PassesOwn (model X.prog X.w) X.A X.env X.xe) (hc : X.calm = true) (hv : PE X (.Name x npos) (tVar i)) (ho : os[i]? = some false) (hg : PG X tg (tT X.K md os os1 t)) (hb : PSs X body (tS X.K E { md with ol := os } os1 os b))
    (hs : ∀ x', foldedSetIterable (.Name x npos) X.env x' = pure x' := by intro _; rfl) : PS X (.For tg (.Name x npos) body [] pos) (tS X.K E md os os (forA i t b)) :=
  PS.weak (PS.or (ds_forK hp hc hv ho hg hb hs) (ds_for hp hc (di_seq (de_var hv ho)) hg hb hs)) fun σ H Q ⟨g, ρ, F, r, hpp, w⟩ => by
    unfold forA at w
    split at w
    · exact .inl ⟨g, ρ, F, r, hpp, w⟩
    · exact .inr ⟨g, ρ, F, r, hpp, w⟩
theorem do_lcA {i : Nat} {scope : Scope} {own : List (Str × Nat)} {t : Tgt} {c : EM Bool} {e : EM D} {gt : TG} (hc : X.calm = true) (hN : X.N.Nodup) (hv0 : PE X (.Name x npos) (tVar i)) (ho : os[i]? = some false) (ok : BlkOk X.N X.env.scope scope own)
    (hg : ∀ (s : Shared) (H : Hp) (C : Addr) (cl : List (Str × Addr)) (fp : List Addr), PG (X.blk s H scope (compEnvC scope cl C X.env) fp) tg gt)
    (ht : ∀ (s : Shared) (H : Hp) (C : Addr) (cl : List (Str × Addr)) (fp : List Addr), PTs (X.blk s H scope (compEnvC scope cl C X.env) fp) ifs (sB X.K E os c))
    (he : ∀ (s : Shared) (H : Hp) (C : Addr) (cl : List (Str × Addr)) (fp : List Addr), PE (X.blk s H scope (compEnvC scope cl C X.env) fp) elt (sD X.K E os e))
    (hr : RawT X.K os (own.map (·.2)) gt t) (hv : ∀ v ∈ own.map (·.2), os[v]? = some false) (hs : ∀ x', foldedSetIterable (.Name x npos) X.env x' = pure x' := by intro _; rfl) :
    PE X (.ListComp elt [⟨tg, .Name x npos, ifs, 0⟩] scope pos) (sO X.K E os (eCompA (own.map (·.2)) i t c e)) :=
  PE.weak (PE.or (do_lcK hc hN hv0 ho ok hg ht he hr hv hs) (do_lc hc hN (di_seq (de_var hv0 ho)) ok hg ht he hr hv hs)) fun σ H Q ⟨g, ρ, F, r, w⟩ => by
    unfold eCompA at w
    split at w
    · rename_i q
      refine .inl ⟨g, ρ, F, r, ?_⟩
      unfold eCompA at *
      exact w
    · exact .inr ⟨g, ρ, F, r, w⟩
theorem dv_cmp {a b : Expr} {fa fb : EM D} {op : CmpOp} {r : R2} {g2 : D → D → Res Bool} (ho : OpR X (compareOp op) r) (hg : Op2B X.K os r g2) (hn : ∀ x y, Noex (g2 x y)) (hm : behindInMarks op b = false) (ha : PE X a (sD X.K E os fa)) (hb : PE X b (sV X.K E os fb)) :
    PE X (.Compare a [op] [b] pos) (sD X.K E os (eBl (e2 g2 fa fb))) := PE.weak (pe_cmpR ho ha hb hm) fun σ H Q h => by
  obtain ⟨g, ρ, F, hR, w⟩ := h
  obtain ⟨g, ρ, F, hR, w⟩ := rBl ⟨g, ρ, F, hR, w⟩
  refine tG.bind hR w fun dx x ρ1 H1 F1 hR1 le1 rx w1 => ?_
  refine tG.bind hR1 w1 fun dy y ρ2 H2 F2 hR2 le2 ry w2 => ?_
  obtain ⟨d, ed, w3⟩ := w2.lift2 (hn _ _)
  exact hg g ρ2 σ H2 F2 x y dx dy d _ hR2 (Rep.view hR2.sub (Rep.mono le2 _ _ rx)) ry ed fun H' F' q l => w3 _ H' F' q l rfl
/-- a call's answer, True or False, as a part of and, or -/
def eAsB (f : EM D) : EM Bool := e1 gBl f
theorem dv_asb {a : Expr} {fa : EM D} (ha : PE X a (sD X.K E os fa)) : PE X a (sD X.K E os (eBl (eAsB fa))) := PE.weak ha fun σ H Q ⟨g, ρ, F, hR, w⟩ => by
  refine ⟨g, ρ, F, hR, ?_⟩
  unfold eBl eAsB DL.e1 eBind at w
  cases q : fa ρ with
  | exc x => rw [q] at w; exact w
  | bad => rw [q] at w; exact w
  | ok p =>
    obtain ⟨d, ρ'⟩ := p
    rw [q] at w
    cases d with
    | bl b => exact w
    | _ => exact w.elim
end
section
variable {X : Cx} {E : XK} {os : List Bool} {c : Expr} {f : EM Bool}
theorem PTs.weak {es : List Expr} {t t' : TT} (h : PTs X es t) (w : ∀ σ H Q, t' σ H Q → t σ H Q) : PTs X es t' := ⟨fun pins s σ H Q I q => h.run pins s σ H Q I (w σ H Q q)⟩
theorem dts_nil : PTs X [] (sB X.K E os eYes) := PTs.weak pts_nil fun σ H Q ⟨g, ρ, F, r, w⟩ => w true H F r FLe.refl rfl
theorem dts_one (h : PT X c (sB X.K E os f)) : PTs X [c] (sB X.K E os f) := pts_one h
end
end DL
/-! DL14: the mirrors evaluated. -/
namespace DL
open PySem PySem.Spec L2
set_option autoImplicit false
def rv (r : Res (D × List D)) : Res D := match r with
  | .ok (d, _) => .ok d
  | .exc x => .exc x
  | .bad => .bad
@[simp] theorem rv_ok (d : D) (l : List D) : rv (.ok (d, l)) = .ok d := rfl
@[simp] theorem rv_exc (x : XD) : rv (.exc x) = .exc x := rfl
@[simp] theorem rv_bad : rv .bad = .bad := rfl
section
variable {α β : Type} (ρ ρ' : Ev)
@[simp] theorem ap_ret (a : α) : eRet a ρ = .ok (a, ρ) := rfl
@[simp] theorem ap_bind (f : EM α) (k : α → EM β) : eBind f k ρ = (match f ρ with
  | .ok (a, ρ') => k a ρ'
  | .exc x => .exc x
  | .bad => .bad) := rfl
@[simp] theorem ap_liftOk (a : α) : eLift (.ok a) ρ = .ok (a, ρ) := rfl
@[simp] theorem ap_liftBad : eLift (.bad : Res α) ρ = .bad := rfl
@[simp] theorem ap_liftExc (x : XD) : eLift (.exc x : Res α) ρ = .exc x := rfl
@[simp] theorem ap_var (i : Nat) : eVar i ρ = (match ρ[i]? with
  | some (some d) => .ok (d, ρ)
  | _ => .bad) := rfl
@[simp] theorem ap_e1 (g : D → Res α) (f : EM D) : e1 g f ρ = (match f ρ with
  | .ok (a, ρ') => eLift (g a) ρ'
  | .exc x => .exc x
  | .bad => .bad) := by
  unfold e1 eBind
  cases f ρ with
  | ok p => obtain ⟨a, r⟩ := p; rfl
  | exc x => rfl
  | bad => rfl
@[simp] theorem ap_e2 (g : D → D → Res α) (f h : EM D) : e2 g f h ρ = (match f ρ with
  | .ok (a, ρ') => (match h ρ' with
    | .ok (b, ρ2) => eLift (g a b) ρ2
    | .exc x => .exc x
    | .bad => .bad)
  | .exc x => .exc x
  | .bad => .bad) := by
  unfold e2 eBind
  cases f ρ with
  | ok p =>
    obtain ⟨a, r⟩ := p
    dsimp only
    cases h r with
    | ok p => obtain ⟨b, r2⟩ := p; rfl
    | exc x => rfl
    | bad => rfl
  | exc x => rfl
  | bad => rfl
@[simp] theorem ap_nil : eNil ρ = .ok ([], ρ) := rfl
@[simp] theorem ap_cons (f : EM D) (r0 : EM (List D)) : eCons f r0 ρ = (match f ρ with
  | .ok (a, ρ') => (match r0 ρ' with
    | .ok (b, ρ2) => .ok (a :: b, ρ2)
    | .exc x => .exc x
    | .bad => .bad)
  | .exc x => .exc x
  | .bad => .bad) := by
  unfold eCons eBind
  cases f ρ with
  | ok p =>
    obtain ⟨a, r⟩ := p
    dsimp only
    cases r0 r with
    | ok p => obtain ⟨b, r2⟩ := p; rfl
    | exc x => rfl
    | bad => rfl
  | exc x => rfl
  | bad => rfl
@[simp] theorem ap_eL (g : List D → Res α) (f : EM (List D)) : eL g f ρ = (match f ρ with
  | .ok (a, ρ') => eLift (g a) ρ'
  | .exc x => .exc x
  | .bad => .bad) := by
  unfold eL eBind
  cases f ρ with
  | ok p => obtain ⟨a, r⟩ := p; rfl
  | exc x => rfl
  | bad => rfl
@[simp] theorem ap_and (f h : EM Bool) : eAnd f h ρ = (match f ρ with
  | .ok (c, ρ') => if c = true then h ρ' else .ok (false, ρ')
  | .exc x => .exc x
  | .bad => .bad) := by
  unfold eAnd eBind
  cases f ρ with
  | ok p =>
    obtain ⟨c, r⟩ := p
    cases c <;> rfl
  | exc x => rfl
  | bad => rfl
@[simp] theorem ap_or (f h : EM Bool) : eOr f h ρ = (match f ρ with
  | .ok (c, ρ') => if c = true then .ok (true, ρ') else h ρ'
  | .exc x => .exc x
  | .bad => .bad) := by
  unfold eOr eBind
  cases f ρ with
  | ok p =>
    obtain ⟨c, r⟩ := p
    cases c <;> rfl
  | exc x => rfl
  | bad => rfl
@[simp] theorem ap_not (f : EM Bool) : eNot f ρ = (match f ρ with
  | .ok (c, ρ') => .ok (!c, ρ')
  | .exc x => .exc x
  | .bad => .bad) := by
  unfold eNot eBind
  cases f ρ with
  | ok p =>
    obtain ⟨c, r⟩ := p
    cases c <;> rfl
  | exc x => rfl
  | bad => rfl
@[simp] theorem ap_bl (f : EM Bool) : eBl f ρ = (match f ρ with
  | .ok (c, ρ') => .ok (.bl c, ρ')
  | .exc x => .exc x
  | .bad => .bad) := by
  unfold eBl eBind
  cases f ρ with
  | ok p =>
    obtain ⟨c, r⟩ := p
    cases c <;> rfl
  | exc x => rfl
  | bad => rfl
@[simp] theorem ap_if (c : EM Bool) (f h : EM α) : eIf c f h ρ = (match c ρ with
  | .ok (c, ρ') => if c = true then f ρ' else h ρ'
  | .exc x => .exc x
  | .bad => .bad) := by
  unfold eIf eBind
  cases c ρ with
  | ok p =>
    obtain ⟨k, r⟩ := p
    cases k <;> rfl
  | exc x => rfl
  | bad => rfl
@[simp] theorem ap_asb (f : EM D) : eAsB f ρ = e1 gBl f ρ := rfl
@[simp] theorem gBl_bl (b : Bool) : gBl (.bl b) = .ok b := rfl
@[simp] theorem ap_yes : eYes ρ = .ok (true, ρ) := rfl
@[simp] theorem ap_seq (f h : SM) : sSeq f h ρ = (match f ρ with
  | .ok (.nx, ρ') => h ρ'
  | r => r) := rfl
@[simp] theorem ap_snil : sNil ρ = .ok (.nx, ρ) := rfl
@[simp] theorem ap_set (i : Nat) (f : EM D) : sSet i f ρ = (match f ρ with
  | .ok (d, ρ') => .ok (.nx, ρ'.set i (some d))
  | .exc x => .exc x
  | .bad => .bad) := rfl
@[simp] theorem ap_sret (f : EM D) : sRet f ρ = (match f ρ with
  | .ok (d, ρ') => .ok (.rt d, ρ')
  | .exc x => .exc x
  | .bad => .bad) := rfl
@[simp] theorem ap_drop (f : EM α) : sDrop f ρ = (match f ρ with
  | .ok (_, ρ') => .ok (.nx, ρ')
  | .exc x => .exc x
  | .bad => .bad) := rfl
@[simp] theorem ap_sif (c : EM Bool) (f h : SM) : sIf c f h ρ = (match c ρ with
  | .ok (c, ρ') => if c = true then f ρ' else h ρ'
  | .exc x => .exc x
  | .bad => .bad) := by
  unfold sIf
  cases c ρ with
  | ok p =>
    obtain ⟨k, r⟩ := p
    cases k <;> rfl
  | exc x => rfl
  | bad => rfl
@[simp] theorem ap_brk : sBrk ρ = .ok (.bk, ρ) := rfl
@[simp] theorem ap_sbad : sBad ρ = .bad := rfl
@[simp] theorem ap_gset (i : Nat) (d : D) : gSet i d ρ = .ok (ρ.set i (some d)) := rfl
@[simp] theorem ap_gsnil : gsNil [] ρ = .ok ρ := rfl
@[simp] theorem ap_gscons (t : Tgt) (u : Tgts) (d : D) (r : List D) : gsCons t u (d :: r) ρ = (match t d ρ with
  | .ok ρ' => u r ρ'
  | _ => .bad) := rfl
@[simp] theorem ap_gtup (n : Nat) (u : Tgts) (ds : List D) : gTupT n u (.tup ds) ρ = if ds.length = n then u ds ρ else .bad := rfl
@[simp] theorem ap_asg (f : EM D) (t : Tgt) : sAsg f t ρ = (match f ρ with
  | .ok (d, ρ') => (match t d ρ' with
    | .ok ρ2 => .ok (.nx, ρ2)
    | _ => .bad)
  | .exc x => .exc x
  | .bad => .bad) := rfl
@[simp] theorem ap_for (f : EM (List D)) (t : Tgt) (b : SM) : sFor f t b ρ = (match f ρ with
  | .ok (ds, ρ') => forM t b ds ρ'
  | .exc x => .exc x
  | .bad => .bad) := rfl
@[simp] theorem ap_upd (i : Nat) (g : D → Res (D × D)) : eUpd i g ρ = (match ρ[i]? with
  | some (some x) => (match g x with
    | .ok (x', r) => .ok (r, ρ.set i (some x'))
    | .exc e => .exc e
    | .bad => .bad)
  | _ => .bad) := rfl
@[simp] theorem res2_okk (x : D) : res2 (.ok x) = .ok (x, .non) := rfl
@[simp] theorem ap_par (i j : Nat) (f : EM (List D)) : sPar i j f ρ = (match f ρ with
  | .ok ([d, e], ρ') => .ok (.nx, (ρ'.set i (some d)).set j (some e))
  | .ok _ => .bad
  | .exc x => .exc x
  | .bad => .bad) := rfl
theorem fill_none : ∀ {ks : List (Option Nat)} {ds : List D}, ks.all Option.isNone = true → ds.length = ks.length → fill ks ds ρ = some ds
  | [], [], _, _ => rfl
  | [], _ :: _, _, h => by cases h
  | _ :: _, [], _, h => by cases h
  | none :: ks, d :: ds, h, hl => by
    unfold fill
    rw [fill_none (ks := ks) (ds := ds) (by simpa using h) (by simpa using hl)]
  | some i :: ks, d :: ds, h, _ => by simp at h
theorem back_none : ∀ {ks : List (Option Nat)} {ds : List D}, ks.all Option.isNone = true → back ks ds ρ = ρ
  | [], ds, _ => by cases ds <;> rfl
  | none :: ks, [], h => rfl
  | none :: ks, d :: ds, h => back_none (ks := ks) (ds := ds) (by simpa using h)
  | some i :: ks, ds, h => by simp at h
theorem call_none {ks : List (Option Nat)} {m : List D → Res (D × List D)} {ds : List D} (h : ks.all Option.isNone = true) (hl : ds.length = ks.length) : callM ks m ds ρ = (match rv (m ds) with
  | .ok d => .ok (d, ρ)
  | .exc x => .exc x
  | .bad => .bad) := by
  unfold callM
  rw [fill_none ρ h hl]
  simp only [back_none ρ h]
  cases m ds with
  | ok p => obtain ⟨d, l⟩ := p; rfl
  | exc x => rfl
  | bad => rfl
@[simp] theorem ap_call (ks : List (Option Nat)) (m : List D → Res (D × List D)) (f : EM (List D)) : eCall ks m f ρ = (match f ρ with
  | .ok (ds, ρ') => callM ks m ds ρ'
  | .exc x => .exc x
  | .bad => .bad) := by
  unfold eCall eBind
  cases f ρ with
  | ok p => obtain ⟨a, r⟩ := p; rfl
  | exc x => rfl
  | bad => rfl
@[simp] theorem call_n1 (m : List D → Res (D × List D)) (a : D) : callM [none] m [a] ρ = (match rv (m [a]) with
  | .ok d => .ok (d, ρ)
  | .exc x => .exc x
  | .bad => .bad) := call_none ρ rfl rfl
@[simp] theorem call_n2 (m : List D → Res (D × List D)) (a b : D) : callM [none, none] m [a, b] ρ = (match rv (m [a, b]) with
  | .ok d => .ok (d, ρ)
  | .exc x => .exc x
  | .bad => .bad) := call_none ρ rfl rfl
@[simp] theorem call_n3 (m : List D → Res (D × List D)) (a b c : D) : callM [none, none, none] m [a, b, c] ρ = (match rv (m [a, b, c]) with
  | .ok d => .ok (d, ρ)
  | .exc x => .exc x
  | .bad => .bad) := call_none ρ rfl rfl
@[simp] theorem call_n4 (m : List D → Res (D × List D)) (a b c d : D) : callM [none, none, none, none] m [a, b, c, d] ρ = (match rv (m [a, b, c, d]) with
  | .ok d => .ok (d, ρ)
  | .exc x => .exc x
  | .bad => .bad) := call_none ρ rfl rfl
@[simp] theorem call_n5 (m : List D → Res (D × List D)) (a b c d e : D) : callM [none, none, none, none, none] m [a, b, c, d, e] ρ = (match rv (m [a, b, c, d, e]) with
  | .ok d => .ok (d, ρ)
  | .exc x => .exc x
  | .bad => .bad) := call_none ρ rfl rfl
@[simp] theorem call_n6 (m : List D → Res (D × List D)) (a b c d e f : D) : callM [none, none, none, none, none, none] m [a, b, c, d, e, f] ρ = (match rv (m [a, b, c, d, e, f]) with
  | .ok d => .ok (d, ρ)
  | .exc x => .exc x
  | .bad => .bad) := call_none ρ rfl rfl
theorem rv_fn (n np : Nat) (rtm : Bool) (b : SM) (ds : List D) : rv (fnM n np rtm b ds) = (match b (initEv n ds) with
  | .ok (.nx, _) => if rtm = true then .bad else .ok .non
  | .ok (.rt d, _) => .ok d
  | .ok _ => .bad
  | .exc x => .exc x
  | .bad => .bad) := by
  unfold fnM
  cases b (initEv n ds) with
  | ok p =>
    obtain ⟨fl, ρ⟩ := p
    cases fl with
    | nx => cases rtm <;> rfl
    | rt d => rfl
    | bk => rfl
    | ct => rfl
  | exc x => rfl
  | bad => rfl
@[simp] theorem init_1 (n : Nat) (a : D) : initEv (n + 1) [a] = some a :: List.replicate n none := rfl
@[simp] theorem init_2 (n : Nat) (a b : D) : initEv (n + 2) [a, b] = some a :: some b :: List.replicate n none := rfl
@[simp] theorem init_3 (n : Nat) (a b c : D) : initEv (n + 3) [a, b, c] = some a :: some b :: some c :: List.replicate n none := rfl
@[simp] theorem init_4 (n : Nat) (a b c d : D) : initEv (n + 4) [a, b, c, d] = some a :: some b :: some c :: some d :: List.replicate n none := rfl
/-! the operators -/
@[simp] theorem addD_int (i j : Int) : addD (.int i) (.int j) = .ok (.int (i + j)) := rfl
@[simp] theorem subD_int (i j : Int) : subD (.int i) (.int j) = .ok (.int (i - j)) := rfl
@[simp] theorem negD_int (i : Int) : negD (.int i) = .ok (.int (-i)) := rfl
theorem mulD_int {i j : Int} (h : okMul i j = true) : mulD (.int i) (.int j) = .ok (.int (i * j)) := by unfold mulD; simp [h]
theorem fdivD_int {i j : Int} (h : okDiv j = true) : fdivD (.int i) (.int j) = .ok (.int (i.fdiv j)) := by unfold fdivD; simp [h]
theorem modD_int {i j : Int} (h : j ≠ 0) : modD (.int i) (.int j) = .ok (.int (i.fmod j)) := by unfold modD; simp [h]
@[simp] theorem cmpD_int (f : Int → Int → Bool) (i j : Int) : cmpD f (.int i) (.int j) = .ok (f i j) := rfl
@[simp] theorem gcdD_int (i j : Int) : gcdD (.int i) (.int j) = .ok (.int (Int.gcd i j)) := rfl
@[simp] theorem intD_int (i : Int) : intD (.int i) = .ok (.int i) := rfl
@[simp] theorem absD_int (i : Int) : absD (.int i) = .ok (.int (if i < 0 then -i else i)) := rfl
end
@[simp] theorem ap_chain {α : Type} (g1 g2 : D → D → Res Bool) (fa fb fc : EM D) (ρ : Ev) : eChain (α := α) g1 g2 fa fb fc ρ = (match fa ρ with
  | .ok (x, ρ1) => (match fb ρ1 with
    | .ok (y, ρ2) => (match g1 x y with
      | .ok k => if k = true then (match fc ρ2 with
        | .ok (z, ρ3) => eLift (g2 y z) ρ3
        | .exc x => .exc x
        | .bad => .bad) else .ok (false, ρ2)
      | .exc x => .exc x
      | .bad => .bad)
    | .exc x => .exc x
    | .bad => .bad)
  | .exc x => .exc x
  | .bad => .bad) := by
  unfold eChain eBind eLift
  cases fa ρ with
  | exc x => rfl
  | bad => rfl
  | ok p =>
    obtain ⟨x, ρ1⟩ := p
    dsimp only
    cases fb ρ1 with
    | exc x => rfl
    | bad => rfl
    | ok p =>
      obtain ⟨y, ρ2⟩ := p
      dsimp only
      cases g1 x y with
      | exc x => rfl
      | bad => rfl
      | ok k =>
        cases k with
        | false => rfl
        | true =>
          simp only [if_true]
          cases fc ρ2 with
          | exc x => rfl
          | bad => rfl
          | ok p => obtain ⟨z, ρ3⟩ := p; rfl
@[simp] theorem gTup0 : gTup [] = .ok (.tup []) := by simp [gTup, sizeLine_eq]
@[simp] theorem gTup1 (a : D) : gTup [a] = .ok (.tup [a]) := by simp [gTup, sizeLine_eq]
@[simp] theorem gTup2 (a b : D) : gTup [a, b] = .ok (.tup [a, b]) := by simp [gTup, sizeLine_eq]
@[simp] theorem gTup3 (a b c : D) : gTup [a, b, c] = .ok (.tup [a, b, c]) := by simp [gTup, sizeLine_eq]
@[simp] theorem gTup4 (a b c d : D) : gTup [a, b, c, d] = .ok (.tup [a, b, c, d]) := by simp [gTup, sizeLine_eq]
@[simp] theorem gTup5 (a b c d e : D) : gTup [a, b, c, d, e] = .ok (.tup [a, b, c, d, e]) := by simp [gTup, sizeLine_eq]
@[simp] theorem gLst0 : gLst [] = .ok (.lst []) := by simp [gLst, sizeLine_eq]
@[simp] theorem gLst1 (a : D) : gLst [a] = .ok (.lst [a]) := by simp [gLst, sizeLine_eq]
@[simp] theorem gLst2 (a b : D) : gLst [a, b] = .ok (.lst [a, b]) := by simp [gLst, sizeLine_eq]
@[simp] theorem gLst3 (a b c : D) : gLst [a, b, c] = .ok (.lst [a, b, c]) := by simp [gLst, sizeLine_eq]
@[simp] theorem gLst4 (a b c d : D) : gLst [a, b, c, d] = .ok (.lst [a, b, c, d]) := by simp [gLst, sizeLine_eq]
@[simp] theorem gLst5 (a b c d e : D) : gLst [a, b, c, d, e] = .ok (.lst [a, b, c, d, e]) := by simp [gLst, sizeLine_eq]
theorem atI_k {α : Type} {xs : List α} {k : Nat} {a : α} (h : xs[k]? = some a) : atI xs (k : Int) = some a := by
  have hl : k < xs.length := (List.getElem?_eq_some_iff.mp h).1
  unfold atI ixN
  rw [if_pos (by omega), if_pos (by omega)]
  exact h
theorem ixT_k {xs : List D} {k : Nat} {a : D} (h : xs[k]? = some a) : ixD (.tup xs) (.int k) = .ok a := by
  show (match atI xs (k : Int) with | some d => Res.ok d | none => .bad) = _
  rw [atI_k h]
theorem ixL_k {xs : List D} {k : Nat} {a : D} (h : xs[k]? = some a) : ixD (.lst xs) (.int k) = .ok a := by
  show (match atI xs (k : Int) with | some d => Res.ok d | none => .bad) = _
  rw [atI_k h]
@[simp] theorem ixT0 (a : D) (r : List D) : ixD (.tup (a :: r)) (.int 0) = .ok a := ixT_k (k := 0) rfl
@[simp] theorem ixT1 (a b : D) (r : List D) : ixD (.tup (a :: b :: r)) (.int 1) = .ok b := ixT_k (k := 1) rfl
@[simp] theorem ixT2 (a b c : D) (r : List D) : ixD (.tup (a :: b :: c :: r)) (.int 2) = .ok c := ixT_k (k := 2) rfl
@[simp] theorem ixT3 (a b c d : D) (r : List D) : ixD (.tup (a :: b :: c :: d :: r)) (.int 3) = .ok d := ixT_k (k := 3) rfl
@[simp] theorem ixL0 (a : D) (r : List D) : ixD (.lst (a :: r)) (.int 0) = .ok a := ixL_k (k := 0) rfl
@[simp] theorem ixL1 (a b : D) (r : List D) : ixD (.lst (a :: b :: r)) (.int 1) = .ok b := ixL_k (k := 1) rfl
@[simp] theorem ixL2 (a b c : D) (r : List D) : ixD (.lst (a :: b :: c :: r)) (.int 2) = .ok c := ixL_k (k := 2) rfl
@[simp] theorem ixL3 (a b c d : D) (r : List D) : ixD (.lst (a :: b :: c :: d :: r)) (.int 3) = .ok d := ixL_k (k := 3) rfl
@[simp] theorem ap_e2N {α : Type} (g : D → D → Res α) (i : Nat) (h : EM D) (ρ : Ev) : e2N g i h ρ = (match ρ[i]? with
  | some (some _) => (match h ρ with
    | .ok (b, ρ2) => (match ρ2[i]? with
      | some (some a) => eLift (g a b) ρ2
      | _ => .bad)
    | .exc x => .exc x
    | .bad => .bad)
  | _ => .bad) := by
  unfold e2N eBind eVar
  cases q : ρ[i]? with
  | none => simp [q]
  | some o => cases o with
    | none => simp [q]
    | some d =>
      simp only [q]
      cases h ρ with
      | ok p =>
        obtain ⟨b, r⟩ := p
        dsimp only
        cases q2 : r[i]? with
        | none => simp [q2]
        | some o => cases o <;> simp [q2]
      | exc x => rfl
      | bad => rfl
@[simp] theorem ap_consO (i : Nat) (f : EM (List D)) (ρ : Ev) : eConsO i f ρ = (match ρ[i]? with
  | some (some _) => (match f ρ with
    | .ok (ds, ρ2) => .ok (.non :: ds, ρ2)
    | .exc x => .exc x
    | .bad => .bad)
  | _ => .bad) := by
  unfold eConsO eBind eVar
  cases q : ρ[i]? with
  | none => simp [q]
  | some o => cases o with
    | none => simp [q]
    | some d =>
      simp only [q]
      cases f ρ with
      | ok p => obtain ⟨b, r⟩ := p; rfl
      | exc x => rfl
      | bad => rfl
@[simp] theorem call_o1 (m : List D → Res (D × List D)) (i : Nat) (x : D) (ρ : Ev) : callM [some i] m [x] ρ = (match ρ[i]? with
  | some (some d) => (match m [d] with
    | .ok (r, ds) => .ok (r, back [some i] ds ρ)
    | .exc x => .exc x
    | .bad => .bad)
  | _ => .bad) := by
  unfold callM fill
  cases q : ρ[i]? with
  | none => simp [q]
  | some o => cases o with
    | none => simp [q]
    | some d =>
      simp only [q, fill] <;> (rcases m [d] with ⟨b, r⟩ | x | _ <;> rfl)
@[simp] theorem call_o2 (m : List D → Res (D × List D)) (i : Nat) (x a : D) (ρ : Ev) : callM [some i, none] m [x, a] ρ = (match ρ[i]? with
  | some (some d) => (match m [d, a] with
    | .ok (r, ds) => .ok (r, back [some i, none] ds ρ)
    | .exc x => .exc x
    | .bad => .bad)
  | _ => .bad) := by
  unfold callM fill
  cases q : ρ[i]? with
  | none => simp [q]
  | some o => cases o with
    | none => simp [q]
    | some d =>
      simp only [q, fill] <;> (rcases m [d, a] with ⟨b, r⟩ | x | _ <;> rfl)
@[simp] theorem call_o3 (m : List D → Res (D × List D)) (i : Nat) (x a c : D) (ρ : Ev) : callM [some i, none, none] m [x, a, c] ρ = (match ρ[i]? with
  | some (some d) => (match m [d, a, c] with
    | .ok (r, ds) => .ok (r, back [some i, none, none] ds ρ)
    | .exc x => .exc x
    | .bad => .bad)
  | _ => .bad) := by
  unfold callM fill
  cases q : ρ[i]? with
  | none => simp [q]
  | some o => cases o with
    | none => simp [q]
    | some d =>
      simp only [q, fill] <;> (rcases m [d, a, c] with ⟨b, r⟩ | x | _ <;> rfl)
@[simp] theorem back_o1 (i : Nat) (d : D) (ρ : Ev) : back [some i] [d] ρ = ρ.set i (some d) := rfl
@[simp] theorem back_o2 (i : Nat) (d a : D) (ρ : Ev) : back [some i, none] [d, a] ρ = ρ.set i (some d) := rfl
@[simp] theorem back_o3 (i : Nat) (d a b : D) (ρ : Ev) : back [some i, none, none] [d, a, b] ρ = ρ.set i (some d) := rfl
@[simp] theorem ap_put (i : Nat) (g : D → D → D → Res D) (fe fi : EM D) (ρ : Ev) : sPut i g fe fi ρ = (match fe ρ with
  | .ok (d, ρ1) => (match ρ1[i]? with
    | some (some _) => (match fi ρ1 with
      | .ok (q, ρ2) => (match ρ2[i]? with
        | some (some x) => (match g x q d with
          | .ok x' => .ok (.nx, ρ2.set i (some x'))
          | .exc e => .exc e
          | .bad => .bad)
        | _ => .bad)
      | .exc x => .exc x
      | .bad => .bad)
    | _ => .bad)
  | .exc x => .exc x
  | .bad => .bad) := by
  unfold sPut sDrop eBind
  cases fe ρ with
  | exc x => rfl
  | bad => rfl
  | ok p =>
    obtain ⟨d, ρ1⟩ := p
    dsimp only
    unfold eVar
    cases q : ρ1[i]? with
    | none => simp [q]
    | some o => cases o with
      | none => simp [q]
      | some z =>
        simp only [q]
        cases fi ρ1 with
        | exc x => rfl
        | bad => rfl
        | ok p =>
          obtain ⟨k, ρ2⟩ := p
          dsimp only
          unfold eUpd
          cases q2 : ρ2[i]? with
          | none => simp [q2]
          | some o => cases o with
            | none => simp [q2]
            | some z =>
              simp only [q2]
              cases g z k d <;> simp [res2]
theorem forM_inv {t : Tgt} {b : SM} (I : Nat → Ev → Prop) : ∀ (ds : List D) (n : Nat) (ρ : Ev), I n ρ → (∀ k d ρ, ds[k]? = some d → I (n + k) ρ → ∃ ρ1 ρ2, t d ρ = .ok ρ1 ∧ b ρ1 = .ok (.nx, ρ2) ∧ I (n + k + 1) ρ2) → ∃ ρ', forM t b ds ρ = .ok (.nx, ρ') ∧ I (n + ds.length) ρ'
  | [], n, ρ, h, _ => ⟨ρ, rfl, h⟩
  | d :: ds, n, ρ, h, st => by
    obtain ⟨ρ1, ρ2, h1, h2, h3⟩ := st 0 d ρ rfl h
    obtain ⟨ρ', h4, h5⟩ := forM_inv I ds (n + 1) ρ2 h3 fun k d ρ hk hI => by
      have := st (k + 1) d ρ (by simpa using hk) (by rw [show n + (k + 1) = n + 1 + k by omega]; exact hI)
      obtain ⟨a, b, c1, c2, c3⟩ := this
      exact ⟨a, b, c1, c2, by rw [show n + 1 + k + 1 = n + (k + 1) + 1 by omega]; exact c3⟩
    refine ⟨ρ', ?_, by rw [List.length_cons, show n + (ds.length + 1) = n + 1 + ds.length by omega]; exact h5⟩
    unfold forM
    rw [h1]
    dsimp only
    rw [h2]
    exact h4
theorem fmod_range {a m : Int} (h : 0 < m) : 0 ≤ a.fmod m ∧ a.fmod m < m := by
  rw [Int.fmod_eq_emod_of_nonneg a (by omega)]
  exact ⟨Int.emod_nonneg a (by omega), Int.emod_lt_of_pos a h⟩
theorem log2_le {n b : Nat} (h : n < 2 ^ (b + 1)) : n.log2 ≤ b := by
  by_cases z : n = 0
  · subst z; simp
  · have := (Nat.log2_lt z).mpr h
    omega
theorem mul_mid {i j : Int} (hi : i.natAbs < 2 ^ 250) (hj : j.natAbs < 2 ^ 250) : okMul i j = true := by
  unfold okMul
  refine decide_eq_true (.inr (.inr ?_))
  have := log2_le (b := 249) hi
  have := log2_le (b := 249) hj
  omega
theorem div_mid {j : Int} (h0 : j ≠ 0) (hj : j.natAbs < 2 ^ 250) : okDiv j = true := by
  unfold okDiv
  refine decide_eq_true ⟨h0, ?_⟩
  have := log2_le (b := 249) hj
  omega
theorem mul_small {i j : Int} (h : i.natAbs < 2 ^ 64) : okMul i j = true := by
  unfold okMul
  refine decide_eq_true (.inl ?_)
  omega
theorem mul_small' {i j : Int} (h : j.natAbs < 2 ^ 64) : okMul i j = true := by
  unfold okMul
  refine decide_eq_true (.inr (.inl ?_))
  omega
end DL
namespace DL
open PySem PySem.Spec L2
@[simp] theorem eqD_int (i j : Int) : eqD (.int i) (.int j) = .ok (decide (i = j)) := by
  simp [eqD, toP, SeqAt.shaped, PyData.canLay0, PyData.depth, PyData.eqv]
  rfl
@[simp] theorem neD_int (i j : Int) : neD (.int i) (.int j) = .ok (!decide (i = j)) := by
  unfold neD; rw [eqD_int]
@[simp] theorem eqD_bl (i j : Bool) : eqD (.bl i) (.bl j) = .ok (i == j) := by
  simp [eqD, toP, SeqAt.shaped, PyData.canLay0, PyData.depth, PyData.eqv]
@[simp] theorem neD_bl (i j : Bool) : neD (.bl i) (.bl j) = .ok (!(i == j)) := by
  unfold neD; rw [eqD_bl]
@[simp] theorem eqD_pair (a b c d : Int) : eqD (.tup [.int a, .int b]) (.tup [.int c, .int d]) = .ok (decide (a = c) && decide (b = d)) := by
  simp [eqD, toP, toP.toPs, SeqAt.shaped, PyData.canLay0, PyData.canLayAll0, PyData.depth, PyData.depthAll, PyData.eqv, PyData.eqvAll]
  rfl
@[simp] theorem neD_pair (a b c d : Int) : neD (.tup [.int a, .int b]) (.tup [.int c, .int d]) = .ok (!(decide (a = c) && decide (b = d))) := by
  unfold neD; rw [eqD_pair]
theorem toPs_ints : ∀ ns : List Int, toP.toPs (ns.map D.int) = some (ns.map PyData.int)
  | [] => rfl
  | n :: ns => by
    rw [List.map_cons, List.map_cons]
    unfold toP.toPs
    rw [toPs_ints ns]
    rfl
theorem lay_ints : ∀ ns : List Int, PyData.canLayAll0 (ns.map PyData.int) = true
  | [] => rfl
  | n :: ns => by
    rw [List.map_cons]
    unfold PyData.canLayAll0
    rw [lay_ints ns]
    rfl
theorem depth_ints : ∀ ns : List Int, PyData.depthAll (ns.map PyData.int) = 0
  | [] => rfl
  | n :: ns => by
    rw [List.map_cons]
    unfold PyData.depthAll
    rw [depth_ints ns]
    rfl
theorem eqv_ints : ∀ ns ms : List Int, PyData.eqvAll (ns.map PyData.int) (ms.map PyData.int) = decide (ns = ms)
  | [], [] => rfl
  | [], _ :: _ => rfl
  | _ :: _, [] => rfl
  | n :: ns, m :: ms => by
    rw [List.map_cons, List.map_cons]
    unfold PyData.eqvAll
    rw [eqv_ints ns ms]
    unfold PyData.eqv
    by_cases h : n = m
    · subst h; simp
    · simp [h]
theorem eqD_ints (ns ms : List Int) : eqD (.lst (ns.map .int)) (.lst (ms.map .int)) = .ok (decide (ns = ms)) := by
  have h1 : toP (.lst (ns.map .int)) = some (.list (ns.map .int)) := by unfold toP; rw [toPs_ints]; rfl
  have h2 : toP (.lst (ms.map .int)) = some (.list (ms.map .int)) := by unfold toP; rw [toPs_ints]; rfl
  have s : ∀ ns : List Int, SeqAt.shaped (.list (ns.map .int)) = true := fun ns => by
    unfold SeqAt.shaped PyData.canLay0 PyData.depth
    rw [lay_ints, depth_ints]
    rfl
  unfold eqD
  rw [h1, h2]
  dsimp only
  rw [if_pos ⟨s ns, s ms⟩]
  unfold PyData.eqv
  rw [eqv_ints]
theorem neD_ints (ns ms : List Int) : neD (.lst (ns.map .int)) (.lst (ms.map .int)) = .ok (!decide (ns = ms)) := by
  unfold neD; rw [eqD_ints]
@[simp] theorem lenD_lst (xs : List D) : lenD (.lst xs) = .ok (.int xs.length) := rfl
@[simp] theorem lenD_tup (xs : List D) : lenD (.tup xs) = .ok (.int xs.length) := rfl
@[simp] theorem lenD_dic (t : Bool) (xs : List (D × D)) : lenD (.dic t xs) = .ok (.int xs.length) := rfl
@[simp] theorem pow_10_18 : powD (.int 10) (.int 18) = .ok (.int (10 ^ 18)) := by simp [powD]
@[simp] theorem isC_int_non (i : Int) : isC (.int i) .non = .ok false := rfl
@[simp] theorem isC_tup_non (i : List D) : isC (.tup i) .non = .ok false := rfl
@[simp] theorem isC_non_non : isC .non .non = .ok true := rfl
end DL
namespace DL
open PySem PySem.Spec L2
theorem compM_map {vs : List Nat} {t : Tgt} {e : EM D} (I : Ev → Prop) (f : Nat → D) : ∀ (ds : List D) (n : Nat) (ρ : Ev) (acc : List D), I ρ → acc.length + ds.length ≤ sizeLine → (∀ k d ρ, ds[k]? = some d → I ρ → ∃ ρ1 ρ2, t d ρ = .ok ρ1 ∧ e ρ1 = .ok (f (n + k), ρ2) ∧ I (wipeE ρ2 vs)) →
    ∃ ρ', compM vs t eYes e ds ρ acc = .ok (acc ++ (List.range ds.length).map (fun k => f (n + k)), ρ') ∧ I ρ'
  | [], n, ρ, acc, h, _, _ => ⟨ρ, by simp [compM], h⟩
  | d :: ds, n, ρ, acc, h, hz, st => by
    obtain ⟨ρ1, ρ2, h1, h2, h3⟩ := st 0 d ρ rfl h
    obtain ⟨ρ', h4, h5⟩ := compM_map I f ds (n + 1) (wipeE ρ2 vs) (acc ++ [f (n + 0)]) h3 (by simp at hz ⊢; omega) fun k d ρ hk hI => by
      have := st (k + 1) d ρ (by simpa using hk) hI
      obtain ⟨a, b, c1, c2, c3⟩ := this
      exact ⟨a, b, c1, by rw [show n + 1 + k = n + (k + 1) by omega]; exact c2, c3⟩
    refine ⟨ρ', ?_, h5⟩
    unfold compM
    rw [h1]
    dsimp only
    rw [ap_yes]
    dsimp only
    rw [h2]
    dsimp only
    rw [if_pos (by simp at hz; omega), h4, List.length_cons, List.range_succ_eq_map, List.map_cons, List.map_map, List.append_assoc]
    have e : (List.range ds.length).map (fun k => f (n + 1 + k)) = (List.range ds.length).map ((fun k => f (n + k)) ∘ Nat.succ) := List.map_congr_left fun k _ => by
      show f (n + 1 + k) = f (n + (k + 1))
      rw [show n + 1 + k = n + (k + 1) by omega]
    rw [e]
    rfl
theorem forM_map_inv {t : Tgt} {b : SM} {α : Type} (g : α → D) (I : Nat → Ev → Prop) (xs : List α) (ρ : Ev) (h : I 0 ρ) (st : ∀ k x ρ, xs[k]? = some x → I k ρ → ∃ ρ1 ρ2, t (g x) ρ = .ok ρ1 ∧ b ρ1 = .ok (.nx, ρ2) ∧ I (k + 1) ρ2) : ∃ ρ', forM t b (xs.map g) ρ = .ok (.nx, ρ') ∧ I xs.length ρ' := by
  have := forM_inv (t := t) (b := b) I (xs.map g) 0 ρ h fun k d ρ hk hI => by
    rw [List.getElem?_map] at hk
    obtain ⟨x, hx, e⟩ := Option.map_eq_some_iff.mp hk
    subst e
    rw [Nat.zero_add] at hI ⊢
    exact st k x ρ hx hI
  rw [List.length_map, Nat.zero_add] at this
  exact this
theorem rngL_eq (lo hi : Int) : rngL lo hi = ((List.range (hi - lo).toNat).map fun (i : Nat) => lo + (i : Int)).map D.int := by
  unfold rngL
  rw [List.map_map]
  rfl
/-- a loop over a range -/
theorem for_rng {t : Tgt} {b : SM} (lo hi : Int) (I : Nat → Ev → Prop) (ρ : Ev) (h : I 0 ρ) (st : ∀ (k : Nat) ρ, (k : Int) < hi - lo → I k ρ → ∃ ρ1 ρ2, t (.int (lo + k)) ρ = .ok ρ1 ∧ b ρ1 = .ok (.nx, ρ2) ∧ I (k + 1) ρ2) : ∃ ρ', forM t b (rngL lo hi) ρ = .ok (.nx, ρ') ∧ I (hi - lo).toNat ρ' := by
  have := forM_map_inv (t := t) (b := b) (fun (i : Nat) => D.int (lo + (i : Int))) I (List.range (hi - lo).toNat) ρ h fun k x ρ hk hI => by
    have hl := (List.getElem?_eq_some_iff.mp hk).1
    rw [List.length_range] at hl
    rw [List.getElem?_range hl] at hk
    cases hk
    exact st k ρ (by omega) hI
  rw [List.length_range] at this
  exact this
theorem rng2_ok {lo hi : Int} (h : lo.natAbs < 2 ^ 40) (h2 : hi.natAbs < 2 ^ 40) : rng2D (.int lo) (.int hi) = .ok (rngL lo hi) := by
  show (if -(2 ^ 62) ≤ lo ∧ lo < 2 ^ 62 ∧ -(2 ^ 62) ≤ hi ∧ hi < 2 ^ 62 then Res.ok (rngL lo hi) else .bad) = _
  rw [if_pos (by omega)]
theorem rng1_ok {hi : Int} (h2 : hi.natAbs < 2 ^ 40) : rng1D (.int hi) = .ok (rngL 0 hi) := by
  show (if -(2 ^ 62) ≤ hi ∧ hi < 2 ^ 62 then Res.ok (rngL 0 hi) else .bad) = _
  rw [if_pos (by omega)]
end DL
namespace DL
open PySem PySem.Spec L2
theorem kit_non_dict : kitB "NoneType" "dict" = some false := by decide +kernel
@[simp] theorem isi_non_dict  : isiD "dict" .non = .ok (.bl false) := by
  show (match kitB "NoneType" "dict" with | some b => Res.ok (D.bl b) | none => .bad) = _
  rw [kit_non_dict]
theorem kit_non_list : kitB "NoneType" "list" = some false := by decide +kernel
@[simp] theorem isi_non_list  : isiD "list" .non = .ok (.bl false) := by
  show (match kitB "NoneType" "list" with | some b => Res.ok (D.bl b) | none => .bad) = _
  rw [kit_non_list]
theorem kit_non_tuple : kitB "NoneType" "tuple" = some false := by decide +kernel
@[simp] theorem isi_non_tuple  : isiD "tuple" .non = .ok (.bl false) := by
  show (match kitB "NoneType" "tuple" with | some b => Res.ok (D.bl b) | none => .bad) = _
  rw [kit_non_tuple]
theorem kit_non_str : kitB "NoneType" "str" = some false := by decide +kernel
@[simp] theorem isi_non_str  : isiD "str" .non = .ok (.bl false) := by
  show (match kitB "NoneType" "str" with | some b => Res.ok (D.bl b) | none => .bad) = _
  rw [kit_non_str]
theorem kit_non_int : kitB "NoneType" "int" = some false := by decide +kernel
@[simp] theorem isi_non_int  : isiD "int" .non = .ok (.bl false) := by
  show (match kitB "NoneType" "int" with | some b => Res.ok (D.bl b) | none => .bad) = _
  rw [kit_non_int]
theorem kit_non_bool : kitB "NoneType" "bool" = some false := by decide +kernel
@[simp] theorem isi_non_bool  : isiD "bool" .non = .ok (.bl false) := by
  show (match kitB "NoneType" "bool" with | some b => Res.ok (D.bl b) | none => .bad) = _
  rw [kit_non_bool]
theorem kit_bl_dict : kitB "bool" "dict" = some false := by decide +kernel
@[simp] theorem isi_bl_dict (b : Bool) : isiD "dict" (.bl b) = .ok (.bl false) := by
  show (match kitB "bool" "dict" with | some b => Res.ok (D.bl b) | none => .bad) = _
  rw [kit_bl_dict]
theorem kit_bl_list : kitB "bool" "list" = some false := by decide +kernel
@[simp] theorem isi_bl_list (b : Bool) : isiD "list" (.bl b) = .ok (.bl false) := by
  show (match kitB "bool" "list" with | some b => Res.ok (D.bl b) | none => .bad) = _
  rw [kit_bl_list]
theorem kit_bl_tuple : kitB "bool" "tuple" = some false := by decide +kernel
@[simp] theorem isi_bl_tuple (b : Bool) : isiD "tuple" (.bl b) = .ok (.bl false) := by
  show (match kitB "bool" "tuple" with | some b => Res.ok (D.bl b) | none => .bad) = _
  rw [kit_bl_tuple]
theorem kit_bl_str : kitB "bool" "str" = some false := by decide +kernel
@[simp] theorem isi_bl_str (b : Bool) : isiD "str" (.bl b) = .ok (.bl false) := by
  show (match kitB "bool" "str" with | some b => Res.ok (D.bl b) | none => .bad) = _
  rw [kit_bl_str]
theorem kit_bl_int : kitB "bool" "int" = some true := by decide +kernel
@[simp] theorem isi_bl_int (b : Bool) : isiD "int" (.bl b) = .ok (.bl true) := by
  show (match kitB "bool" "int" with | some b => Res.ok (D.bl b) | none => .bad) = _
  rw [kit_bl_int]
theorem kit_bl_bool : kitB "bool" "bool" = some true := by decide +kernel
@[simp] theorem isi_bl_bool (b : Bool) : isiD "bool" (.bl b) = .ok (.bl true) := by
  show (match kitB "bool" "bool" with | some b => Res.ok (D.bl b) | none => .bad) = _
  rw [kit_bl_bool]
theorem kit_int_dict : kitB "int" "dict" = some false := by decide +kernel
@[simp] theorem isi_int_dict (b : Int) : isiD "dict" (.int b) = .ok (.bl false) := by
  show (match kitB "int" "dict" with | some b => Res.ok (D.bl b) | none => .bad) = _
  rw [kit_int_dict]
theorem kit_int_list : kitB "int" "list" = some false := by decide +kernel
@[simp] theorem isi_int_list (b : Int) : isiD "list" (.int b) = .ok (.bl false) := by
  show (match kitB "int" "list" with | some b => Res.ok (D.bl b) | none => .bad) = _
  rw [kit_int_list]
theorem kit_int_tuple : kitB "int" "tuple" = some false := by decide +kernel
@[simp] theorem isi_int_tuple (b : Int) : isiD "tuple" (.int b) = .ok (.bl false) := by
  show (match kitB "int" "tuple" with | some b => Res.ok (D.bl b) | none => .bad) = _
  rw [kit_int_tuple]
theorem kit_int_str : kitB "int" "str" = some false := by decide +kernel
@[simp] theorem isi_int_str (b : Int) : isiD "str" (.int b) = .ok (.bl false) := by
  show (match kitB "int" "str" with | some b => Res.ok (D.bl b) | none => .bad) = _
  rw [kit_int_str]
theorem kit_int_int : kitB "int" "int" = some true := by decide +kernel
@[simp] theorem isi_int_int (b : Int) : isiD "int" (.int b) = .ok (.bl true) := by
  show (match kitB "int" "int" with | some b => Res.ok (D.bl b) | none => .bad) = _
  rw [kit_int_int]
theorem kit_int_bool : kitB "int" "bool" = some false := by decide +kernel
@[simp] theorem isi_int_bool (b : Int) : isiD "bool" (.int b) = .ok (.bl false) := by
  show (match kitB "int" "bool" with | some b => Res.ok (D.bl b) | none => .bad) = _
  rw [kit_int_bool]
theorem kit_str_dict : kitB "str" "dict" = some false := by decide +kernel
@[simp] theorem isi_str_dict (b : Str) : isiD "dict" (.str b) = .ok (.bl false) := by
  show (match kitB "str" "dict" with | some b => Res.ok (D.bl b) | none => .bad) = _
  rw [kit_str_dict]
theorem kit_str_list : kitB "str" "list" = some false := by decide +kernel
@[simp] theorem isi_str_list (b : Str) : isiD "list" (.str b) = .ok (.bl false) := by
  show (match kitB "str" "list" with | some b => Res.ok (D.bl b) | none => .bad) = _
  rw [kit_str_list]
theorem kit_str_tuple : kitB "str" "tuple" = some false := by decide +kernel
@[simp] theorem isi_str_tuple (b : Str) : isiD "tuple" (.str b) = .ok (.bl false) := by
  show (match kitB "str" "tuple" with | some b => Res.ok (D.bl b) | none => .bad) = _
  rw [kit_str_tuple]
theorem kit_str_str : kitB "str" "str" = some true := by decide +kernel
@[simp] theorem isi_str_str (b : Str) : isiD "str" (.str b) = .ok (.bl true) := by
  show (match kitB "str" "str" with | some b => Res.ok (D.bl b) | none => .bad) = _
  rw [kit_str_str]
theorem kit_str_int : kitB "str" "int" = some false := by decide +kernel
@[simp] theorem isi_str_int (b : Str) : isiD "int" (.str b) = .ok (.bl false) := by
  show (match kitB "str" "int" with | some b => Res.ok (D.bl b) | none => .bad) = _
  rw [kit_str_int]
theorem kit_str_bool : kitB "str" "bool" = some false := by decide +kernel
@[simp] theorem isi_str_bool (b : Str) : isiD "bool" (.str b) = .ok (.bl false) := by
  show (match kitB "str" "bool" with | some b => Res.ok (D.bl b) | none => .bad) = _
  rw [kit_str_bool]
theorem kit_lst_dict : kitB "list" "dict" = some false := by decide +kernel
@[simp] theorem isi_lst_dict (b : List D) : isiD "dict" (.lst b) = .ok (.bl false) := by
  show (match kitB "list" "dict" with | some b => Res.ok (D.bl b) | none => .bad) = _
  rw [kit_lst_dict]
theorem kit_lst_list : kitB "list" "list" = some true := by decide +kernel
@[simp] theorem isi_lst_list (b : List D) : isiD "list" (.lst b) = .ok (.bl true) := by
  show (match kitB "list" "list" with | some b => Res.ok (D.bl b) | none => .bad) = _
  rw [kit_lst_list]
theorem kit_lst_tuple : kitB "list" "tuple" = some false := by decide +kernel
@[simp] theorem isi_lst_tuple (b : List D) : isiD "tuple" (.lst b) = .ok (.bl false) := by
  show (match kitB "list" "tuple" with | some b => Res.ok (D.bl b) | none => .bad) = _
  rw [kit_lst_tuple]
theorem kit_lst_str : kitB "list" "str" = some false := by decide +kernel
@[simp] theorem isi_lst_str (b : List D) : isiD "str" (.lst b) = .ok (.bl false) := by
  show (match kitB "list" "str" with | some b => Res.ok (D.bl b) | none => .bad) = _
  rw [kit_lst_str]
theorem kit_lst_int : kitB "list" "int" = some false := by decide +kernel
@[simp] theorem isi_lst_int (b : List D) : isiD "int" (.lst b) = .ok (.bl false) := by
  show (match kitB "list" "int" with | some b => Res.ok (D.bl b) | none => .bad) = _
  rw [kit_lst_int]
theorem kit_lst_bool : kitB "list" "bool" = some false := by decide +kernel
@[simp] theorem isi_lst_bool (b : List D) : isiD "bool" (.lst b) = .ok (.bl false) := by
  show (match kitB "list" "bool" with | some b => Res.ok (D.bl b) | none => .bad) = _
  rw [kit_lst_bool]
theorem kit_tup_dict : kitB "tuple" "dict" = some false := by decide +kernel
@[simp] theorem isi_tup_dict (b : List D) : isiD "dict" (.tup b) = .ok (.bl false) := by
  show (match kitB "tuple" "dict" with | some b => Res.ok (D.bl b) | none => .bad) = _
  rw [kit_tup_dict]
theorem kit_tup_list : kitB "tuple" "list" = some false := by decide +kernel
@[simp] theorem isi_tup_list (b : List D) : isiD "list" (.tup b) = .ok (.bl false) := by
  show (match kitB "tuple" "list" with | some b => Res.ok (D.bl b) | none => .bad) = _
  rw [kit_tup_list]
theorem kit_tup_tuple : kitB "tuple" "tuple" = some true := by decide +kernel
@[simp] theorem isi_tup_tuple (b : List D) : isiD "tuple" (.tup b) = .ok (.bl true) := by
  show (match kitB "tuple" "tuple" with | some b => Res.ok (D.bl b) | none => .bad) = _
  rw [kit_tup_tuple]
theorem kit_tup_str : kitB "tuple" "str" = some false := by decide +kernel
@[simp] theorem isi_tup_str (b : List D) : isiD "str" (.tup b) = .ok (.bl false) := by
  show (match kitB "tuple" "str" with | some b => Res.ok (D.bl b) | none => .bad) = _
  rw [kit_tup_str]
theorem kit_tup_int : kitB "tuple" "int" = some false := by decide +kernel
@[simp] theorem isi_tup_int (b : List D) : isiD "int" (.tup b) = .ok (.bl false) := by
  show (match kitB "tuple" "int" with | some b => Res.ok (D.bl b) | none => .bad) = _
  rw [kit_tup_int]
theorem kit_tup_bool : kitB "tuple" "bool" = some false := by decide +kernel
@[simp] theorem isi_tup_bool (b : List D) : isiD "bool" (.tup b) = .ok (.bl false) := by
  show (match kitB "tuple" "bool" with | some b => Res.ok (D.bl b) | none => .bad) = _
  rw [kit_tup_bool]
theorem kit_dic_dict : kitB "dict" "dict" = some true := by decide +kernel
@[simp] theorem isi_dic_dict (t : Bool) (b : List (D × D)) : isiD "dict" (.dic t b) = .ok (.bl true) := by
  show (match kitB "dict" "dict" with | some b => Res.ok (D.bl b) | none => .bad) = _
  rw [kit_dic_dict]
theorem kit_dic_list : kitB "dict" "list" = some false := by decide +kernel
@[simp] theorem isi_dic_list (t : Bool) (b : List (D × D)) : isiD "list" (.dic t b) = .ok (.bl false) := by
  show (match kitB "dict" "list" with | some b => Res.ok (D.bl b) | none => .bad) = _
  rw [kit_dic_list]
theorem kit_dic_tuple : kitB "dict" "tuple" = some false := by decide +kernel
@[simp] theorem isi_dic_tuple (t : Bool) (b : List (D × D)) : isiD "tuple" (.dic t b) = .ok (.bl false) := by
  show (match kitB "dict" "tuple" with | some b => Res.ok (D.bl b) | none => .bad) = _
  rw [kit_dic_tuple]
theorem kit_dic_str : kitB "dict" "str" = some false := by decide +kernel
@[simp] theorem isi_dic_str (t : Bool) (b : List (D × D)) : isiD "str" (.dic t b) = .ok (.bl false) := by
  show (match kitB "dict" "str" with | some b => Res.ok (D.bl b) | none => .bad) = _
  rw [kit_dic_str]
theorem kit_dic_int : kitB "dict" "int" = some false := by decide +kernel
@[simp] theorem isi_dic_int (t : Bool) (b : List (D × D)) : isiD "int" (.dic t b) = .ok (.bl false) := by
  show (match kitB "dict" "int" with | some b => Res.ok (D.bl b) | none => .bad) = _
  rw [kit_dic_int]
theorem kit_dic_bool : kitB "dict" "bool" = some false := by decide +kernel
@[simp] theorem isi_dic_bool (t : Bool) (b : List (D × D)) : isiD "bool" (.dic t b) = .ok (.bl false) := by
  show (match kitB "dict" "bool" with | some b => Res.ok (D.bl b) | none => .bad) = _
  rw [kit_dic_bool]
theorem blsOf_rep : ∀ n : Nat, blsOf ((List.range n).map fun _ => D.bl true) = some (List.replicate n true)
  | 0 => rfl
  | n + 1 => by
    rw [List.range_succ_eq_map, List.map_cons, List.map_map, List.replicate_succ]
    show (blsOf ((List.range n).map ((fun _ => D.bl true) ∘ Nat.succ))).map (true :: ·) = _
    rw [show ((fun _ => D.bl true) ∘ Nat.succ : Nat → D) = fun _ => D.bl true from rfl, blsOf_rep n]
    rfl
theorem all_rep (n : Nat) : allD (.lst ((List.range n).map fun _ => D.bl true)) = .ok (.bl true) := by
  show (match blsOf ((List.range n).map fun _ => D.bl true) with | some bs => Res.ok (D.bl (bs.all id)) | none => .bad) = _
  rw [blsOf_rep]
  simp
end DL
namespace DL
open PySem PySem.Spec L2
theorem forM_all {t : Tgt} {b : SM} (I : Ev → Prop) (c : D → Bool) (d0 : D) : ∀ (ds : List D) (ρ : Ev), I ρ → (∀ d ρ, d ∈ ds → I ρ → ∃ ρ1 ρ2, t d ρ = .ok ρ1 ∧ b ρ1 = (if c d = true then .ok (.nx, ρ2) else .ok (.rt d0, ρ2)) ∧ I ρ2) →
    ∃ ρ', forM t b ds ρ = (if ds.all c = true then .ok (.nx, ρ') else .ok (.rt d0, ρ')) ∧ I ρ'
  | [], ρ, h, _ => ⟨ρ, rfl, h⟩
  | d :: ds, ρ, h, st => by
    obtain ⟨ρ1, ρ2, h1, h2, h3⟩ := st d ρ List.mem_cons_self h
    unfold forM
    rw [h1]
    dsimp only
    rw [h2]
    cases q : c d with
    | false => exact ⟨ρ2, by rw [List.all_cons, q]; rfl, h3⟩
    | true =>
      obtain ⟨ρ', h4, h5⟩ := forM_all I c d0 ds ρ2 h3 fun d ρ hd hI => st d ρ (List.mem_cons_of_mem _ hd) hI
      refine ⟨ρ', ?_, h5⟩
      rw [if_pos rfl]
      dsimp only
      rw [h4, List.all_cons, q, Bool.true_and]
@[simp] theorem noX_ok (f : SM) (ρ : Ev) (a : Fl × Ev) (h : f ρ = .ok a) : noX f ρ = .ok a := by unfold noX; rw [h]
end DL
namespace DL.G
set_option autoImplicit false
open PySem PySem.Spec L2 He
def top (i : Nat) : Stmt := PySem.Challenge.pw_pairsave_k80_whole_rent_or_buy.main.body.getD i (.Pass ⟨0, 0, 0, 0⟩)
def fn : List He.DefD := ([mkD "frac" (top 2), mkD "plus" (top 3), mkD "times" (top 4), mkD "over" (top 5), mkD "less" (top 6), mkD "least" (top 7), mkD "pays" (top 9), mkD "ratio" (top 10), mkD "worst_of" (top 11), mkD "best_rent" (top 12), mkD "judge_rent" (top 14), mkD "_law_mixed" (top 16), mkD "_law_rest" (top 17), mkD "_law_pool" (top 18), mkD "_law_next" (top 19), mkD "_law_draw" (top 20), mkD "_law_pick" (top 21), mkD "_law_same" (top 22), mkD "_law_gcd" (top 23), mkD "_law_ratio" (top 24), mkD "_law_add" (top 25), mkD "_law_mul" (top 26), mkD "_law_less" (top 27), mkD "_law_low" (top 28), mkD "_law_over" (top 29), mkD "_law_pays" (top 30), mkD "_law_quotient" (top 31), mkD "_law_worst" (top 32), mkD "_law_right" (top 33), mkD "_law_bent" (top 34)] : List He.DefD) ++ ([mkD "law" (top 35)] : List He.DefD)
def fa : List He.Fa := ([.glo "frac", .glo "plus", .glo "times", .glo "over", .glo "less", .glo "least", .glo "pays", .glo "ratio", .glo "worst_of", .glo "best_rent", .glo "judge_rent", .glo "_law_mixed", .glo "_law_rest", .glo "_law_pool", .glo "_law_next", .glo "_law_draw", .glo "_law_pick", .glo "_law_same", .glo "_law_gcd", .glo "_law_ratio", .glo "_law_add", .glo "_law_mul", .glo "_law_less", .glo "_law_low", .glo "_law_over", .glo "_law_pays", .glo "_law_quotient", .glo "_law_worst", .glo "_law_right", .glo "_law_bent"] : List He.Fa) ++ ([.glo "law", .free "abs", .free "all", .free "bool", .free "dict", .free "int", .free "isinstance", .free "len", .free "list", .free "range", .free "sorted", .free "str", .free "tuple"] : List He.Fa)
def ex (K : PySem.W.Frag) : Bool := He.eqO (PySem.W.nsIn K mainGlobals "gcd") (some (some (.builtin "math.gcd")))
section
variable {P : Program} {w : World} {K : Frag} {mg : Str → Option Value} {base : Heap}
theorem mg_gcd (c : Base fa fn ex K mg) : mg "gcd" = some (.builtin "math.gcd") := c.bfun fun K h => h
abbrev N_frac : List Str := ["p", "q", "shared"]
theorem sc_frac : FnScope N_frac ["p", "q"] (defScope (top 2)) := ⟨rfl, rfl, rfl, by decide +kernel, rfl, by decide +kernel, by decide +kernel⟩
def b_frac : SM := (sSeq (sSet 2 (e2 gcdD (eVar 0) (eVar 1)))
 (sSeq (sIf (e2 (cmpD fun i j => decide (i < j)) (eVar 1) (eRet (.int 0)))
 (sSeq (sSet 2 (e1 negD (eVar 2)))
 sNil)
 sNil)
 (sSeq (sRet (eL gTup (eCons (e2 fdivD (eVar 0) (eVar 2)) (eCons (e2 fdivD (eVar 1) (eVar 2)) eNil)))) sNil)))
def m_frac : List D → Res (D × List D) := fnM 3 2 false b_frac
theorem ok_frac (c : Base fa fn ex K mg) : Ok P w K mg base "frac" 1 ["p", "q"] [false, false] false m_frac := mkOk c 0 0 rfl rfl (fun _ _ _ _ _ _ us hl => match us, hl with | [_, _], _ => rfl) fun F =>
  fn_D F sc_frac rfl (by decide) (by decide) (kt := []) (os' := [false, false, false]) fun cdv A outer s H E hr => (dss_cons (os1 := [false, false, false])
 (ds_set (tg := .Constant .none 0 ⟨0, 0, 0, 0⟩) (fun h => ps_set (i := 2) sc_frac.nd rfl (by first | exact Or.inl rfl | exact Or.inr rfl) h) (by decide) (by decide) (de_call2 (fun h => pe_callBfun cr_gcd (by rfl) (mg_gcd c) h) gcdD_ok gcdD_nx (de_var (pv 0) rfl) (dv_var (pv 1))))
 (dss_cons (os1 := [false, false, false])
 (ds_if (dt_cmp op_lt (cmpD_ok fun i j => decide (i < j)) (cmpD_nx _) (nomark _) (de_var (pv 1) rfl) (dv_of de_int))
 (dss_cons (os1 := [false, false, false])
 (ds_set (tg := .Constant .none 0 ⟨0, 0, 0, 0⟩) (fun h => ps_set (i := 2) sc_frac.nd rfl (by first | exact Or.inl rfl | exact Or.inr rfl) h) (by decide) (by decide) (de_un un_neg negD_ok negD_nx (dv_var (pv 2))))
 dss_nil)
 dss_nil)
 (dss_cons (os1 := [false, false, false]) (ds_ret rfl (de_tup (da_cons (de_op op_fdivA fdivD_ok fdivD_nx (de_var (pv 0) rfl) (dv_var (pv 2))) (da_cons (de_op op_fdivA fdivD_ok fdivD_nx (de_var (pv 1) rfl) (dv_var (pv 2))) da_nil)))) dss_nil)))
abbrev N_plus : List Str := ["a", "b"]
theorem sc_plus : FnScope N_plus ["a", "b"] (defScope (top 3)) := ⟨rfl, rfl, rfl, by decide +kernel, rfl, by decide +kernel, by decide +kernel⟩
def b_plus : SM := (sSeq (sRet (eCall [none, none] m_frac (eCons (e2 addD (e2 mulD (e2 ixD (eVar 0) (eRet (.int 0))) (e2 ixD (eVar 1) (eRet (.int 1)))) (e2 mulD (e2 ixD (eVar 1) (eRet (.int 0))) (e2 ixD (eVar 0) (eRet (.int 1))))) (eCons (e2 mulD (e2 ixD (eVar 0) (eRet (.int 1))) (e2 ixD (eVar 1) (eRet (.int 1)))) eNil)))) sNil)
def m_plus : List D → Res (D × List D) := fnM 2 2 false b_plus
theorem ok_plus (c : Base fa fn ex K mg) : Ok P w K mg base "plus" 2 ["a", "b"] [false, false] false m_plus := mkOk c 1 1 rfl rfl (fun _ _ _ _ _ _ us hl => match us, hl with | [_, _], _ => rfl) fun F =>
  fn_D F sc_plus rfl (by decide) (by decide) (kt := []) (os' := [false, false]) fun cdv A outer s H E hr => (dss_cons (os1 := [false, false]) (ds_ret rfl (dcall (ks := [none, none]) (ok_frac c) rfl hr (by decide) (by rfl) (dc_val (de_op op_add4 addD_ok addD_nx (de_op op_mul2 mulD_ok mulD_nx (de_ix (hr_cls hr) (by intro _ _; rfl) (de_var (pv 0) rfl) (dv_of de_int)) (dv_of (de_ix (hr_cls hr) (by intro _ _; rfl) (de_var (pv 1) rfl) (dv_of de_int)))) (dv_of (de_op op_mul2 mulD_ok mulD_nx (de_ix (hr_cls hr) (by intro _ _; rfl) (de_var (pv 1) rfl) (dv_of de_int)) (dv_of (de_ix (hr_cls hr) (by intro _ _; rfl) (de_var (pv 0) rfl) (dv_of de_int)))))) (dc_val (de_op op_mul2 mulD_ok mulD_nx (de_ix (hr_cls hr) (by intro _ _; rfl) (de_var (pv 0) rfl) (dv_of de_int)) (dv_of (de_ix (hr_cls hr) (by intro _ _; rfl) (de_var (pv 1) rfl) (dv_of de_int)))) dc_nil)) rfl (by decide))) dss_nil)
abbrev N_times : List Str := ["a", "b"]
theorem sc_times : FnScope N_times ["a", "b"] (defScope (top 4)) := ⟨rfl, rfl, rfl, by decide +kernel, rfl, by decide +kernel, by decide +kernel⟩
def b_times : SM := (sSeq (sRet (eCall [none, none] m_frac (eCons (e2 mulD (e2 ixD (eVar 0) (eRet (.int 0))) (e2 ixD (eVar 1) (eRet (.int 0)))) (eCons (e2 mulD (e2 ixD (eVar 0) (eRet (.int 1))) (e2 ixD (eVar 1) (eRet (.int 1)))) eNil)))) sNil)
def m_times : List D → Res (D × List D) := fnM 2 2 false b_times
theorem ok_times (c : Base fa fn ex K mg) : Ok P w K mg base "times" 2 ["a", "b"] [false, false] false m_times := mkOk c 2 2 rfl rfl (fun _ _ _ _ _ _ us hl => match us, hl with | [_, _], _ => rfl) fun F =>
  fn_D F sc_times rfl (by decide) (by decide) (kt := []) (os' := [false, false]) fun cdv A outer s H E hr => (dss_cons (os1 := [false, false]) (ds_ret rfl (dcall (ks := [none, none]) (ok_frac c) rfl hr (by decide) (by rfl) (dc_val (de_op op_mul2 mulD_ok mulD_nx (de_ix (hr_cls hr) (by intro _ _; rfl) (de_var (pv 0) rfl) (dv_of de_int)) (dv_of (de_ix (hr_cls hr) (by intro _ _; rfl) (de_var (pv 1) rfl) (dv_of de_int)))) (dc_val (de_op op_mul2 mulD_ok mulD_nx (de_ix (hr_cls hr) (by intro _ _; rfl) (de_var (pv 0) rfl) (dv_of de_int)) (dv_of (de_ix (hr_cls hr) (by intro _ _; rfl) (de_var (pv 1) rfl) (dv_of de_int)))) dc_nil)) rfl (by decide))) dss_nil)
abbrev N_over : List Str := ["a", "b"]
theorem sc_over : FnScope N_over ["a", "b"] (defScope (top 5)) := ⟨rfl, rfl, rfl, by decide +kernel, rfl, by decide +kernel, by decide +kernel⟩
def b_over : SM := (sSeq (sRet (eCall [none, none] m_frac (eCons (e2 mulD (e2 ixD (eVar 0) (eRet (.int 0))) (e2 ixD (eVar 1) (eRet (.int 1)))) (eCons (e2 mulD (e2 ixD (eVar 0) (eRet (.int 1))) (e2 ixD (eVar 1) (eRet (.int 0)))) eNil)))) sNil)
def m_over : List D → Res (D × List D) := fnM 2 2 false b_over
theorem ok_over (c : Base fa fn ex K mg) : Ok P w K mg base "over" 2 ["a", "b"] [false, false] false m_over := mkOk c 3 3 rfl rfl (fun _ _ _ _ _ _ us hl => match us, hl with | [_, _], _ => rfl) fun F =>
  fn_D F sc_over rfl (by decide) (by decide) (kt := []) (os' := [false, false]) fun cdv A outer s H E hr => (dss_cons (os1 := [false, false]) (ds_ret rfl (dcall (ks := [none, none]) (ok_frac c) rfl hr (by decide) (by rfl) (dc_val (de_op op_mul2 mulD_ok mulD_nx (de_ix (hr_cls hr) (by intro _ _; rfl) (de_var (pv 0) rfl) (dv_of de_int)) (dv_of (de_ix (hr_cls hr) (by intro _ _; rfl) (de_var (pv 1) rfl) (dv_of de_int)))) (dc_val (de_op op_mul2 mulD_ok mulD_nx (de_ix (hr_cls hr) (by intro _ _; rfl) (de_var (pv 0) rfl) (dv_of de_int)) (dv_of (de_ix (hr_cls hr) (by intro _ _; rfl) (de_var (pv 1) rfl) (dv_of de_int)))) dc_nil)) rfl (by decide))) dss_nil)
abbrev N_less : List Str := ["a", "b"]
theorem sc_less : FnScope N_less ["a", "b"] (defScope (top 6)) := ⟨rfl, rfl, rfl, by decide +kernel, rfl, by decide +kernel, by decide +kernel⟩
def b_less : SM := (sSeq (sRet (eBl (e2 (cmpD fun i j => decide (i < j)) (e2 mulD (e2 ixD (eVar 0) (eRet (.int 0))) (e2 ixD (eVar 1) (eRet (.int 1)))) (e2 mulD (e2 ixD (eVar 1) (eRet (.int 0))) (e2 ixD (eVar 0) (eRet (.int 1))))))) sNil)
def m_less : List D → Res (D × List D) := fnM 2 2 false b_less
theorem ok_less (c : Base fa fn ex K mg) : Ok P w K mg base "less" 1 ["a", "b"] [false, false] false m_less := mkOk c 4 4 rfl rfl (fun _ _ _ _ _ _ us hl => match us, hl with | [_, _], _ => rfl) fun F =>
  fn_D F sc_less rfl (by decide) (by decide) (kt := []) (os' := [false, false]) fun cdv A outer s H E hr => (dss_cons (os1 := [false, false]) (ds_ret rfl (dv_cmp op_lt (cmpD_ok fun i j => decide (i < j)) (cmpD_nx _) (nomark _) (de_op op_mul2 mulD_ok mulD_nx (de_ix (hr_cls hr) (by intro _ _; rfl) (de_var (pv 0) rfl) (dv_of de_int)) (dv_of (de_ix (hr_cls hr) (by intro _ _; rfl) (de_var (pv 1) rfl) (dv_of de_int)))) (dv_of (de_op op_mul2 mulD_ok mulD_nx (de_ix (hr_cls hr) (by intro _ _; rfl) (de_var (pv 1) rfl) (dv_of de_int)) (dv_of (de_ix (hr_cls hr) (by intro _ _; rfl) (de_var (pv 0) rfl) (dv_of de_int))))))) dss_nil)
abbrev N_least : List Str := ["a", "b"]
theorem sc_least : FnScope N_least ["a", "b"] (defScope (top 7)) := ⟨rfl, rfl, rfl, by decide +kernel, rfl, by decide +kernel, by decide +kernel⟩
def b_least : SM := (sSeq (sRet (eIf (e1 gBl (eCall [none, none] m_less (eCons (eVar 1) (eCons (eVar 0) eNil)))) (eVar 1) (eVar 0))) sNil)
def m_least : List D → Res (D × List D) := fnM 2 2 false b_least
theorem ok_least (c : Base fa fn ex K mg) : Ok P w K mg base "least" 2 ["a", "b"] [false, false] false m_least := mkOk c 5 5 rfl rfl (fun _ _ _ _ _ _ us hl => match us, hl with | [_, _], _ => rfl) fun F =>
  fn_D F sc_least rfl (by decide) (by decide) (kt := []) (os' := [false, false]) fun cdv A outer s H E hr => (dss_cons (os1 := [false, false]) (ds_ret rfl (de_if (dt_val (dcall (ks := [none, none]) (ok_less c) rfl hr (by decide) (by rfl) (dc_val (de_var (pv 1) rfl) (dc_val (de_var (pv 0) rfl) dc_nil)) rfl (by decide))) (de_var (pv 1) rfl) (de_var (pv 0) rfl))) dss_nil)
abbrev N_pays : List Str := ["rent", "price", "k", "m"]
theorem sc_pays : FnScope N_pays ["rent", "price", "k", "m"] (defScope (top 9)) := ⟨rfl, rfl, rfl, by decide +kernel, rfl, by decide +kernel, by decide +kernel⟩
def b_pays : SM := (sSeq (sIf (e2 (cmpD fun i j => decide (i < j)) (eVar 3) (eVar 2))
 (sSeq (sRet (eCall [none, none] m_times (eCons (eVar 0) (eCons (eL gTup (eCons (eVar 3) (eCons (eRet (.int 1)) eNil))) eNil)))) sNil)
 sNil)
 (sSeq (sRet (eCall [none, none] m_plus (eCons (eCall [none, none] m_times (eCons (eVar 0) (eCons (eL gTup (eCons (e2 subD (eVar 2) (eRet (.int 1))) (eCons (eRet (.int 1)) eNil))) eNil))) (eCons (eVar 1) eNil)))) sNil))
def m_pays : List D → Res (D × List D) := fnM 4 4 false b_pays
theorem ok_pays (c : Base fa fn ex K mg) : Ok P w K mg base "pays" 3 ["rent", "price", "k", "m"] [false, false, false, false] false m_pays := mkOk c 6 6 rfl rfl (fun _ _ _ _ _ _ us hl => match us, hl with | [_, _, _, _], _ => rfl) fun F =>
  fn_D F sc_pays rfl (by decide) (by decide) (kt := []) (os' := [false, false, false, false]) fun cdv A outer s H E hr => (dss_cons (os1 := [false, false, false, false])
 (ds_if (dt_cmp op_lt (cmpD_ok fun i j => decide (i < j)) (cmpD_nx _) (nomark _) (de_var (pv 3) rfl) (dv_var (pv 2)))
 (dss_cons (os1 := [false, false, false, false]) (ds_ret rfl (dcall (ks := [none, none]) (ok_times c) rfl hr (by decide) (by rfl) (dc_val (de_var (pv 0) rfl) (dc_val (de_tup (da_cons (de_var (pv 3) rfl) (da_cons de_int da_nil))) dc_nil)) rfl (by decide))) dss_nil)
 dss_nil)
 (dss_cons (os1 := [false, false, false, false]) (ds_ret rfl (dcall (ks := [none, none]) (ok_plus c) rfl hr (by decide) (by rfl) (dc_val (dcall (ks := [none, none]) (ok_times c) rfl hr (by decide) (by rfl) (dc_val (de_var (pv 0) rfl) (dc_val (de_tup (da_cons (de_op op_sub subD_ok subD_nx (de_var (pv 2) rfl) (dv_of de_int)) (da_cons de_int da_nil))) dc_nil)) rfl (by decide)) (dc_val (de_var (pv 1) rfl) dc_nil)) rfl (by decide))) dss_nil))
abbrev N_ratio : List Str := ["rent", "price", "k", "m"]
theorem sc_ratio : FnScope N_ratio ["rent", "price", "k", "m"] (defScope (top 10)) := ⟨rfl, rfl, rfl, by decide +kernel, rfl, by decide +kernel, by decide +kernel⟩
def b_ratio : SM := (sSeq (sRet (eCall [none, none] m_over (eCons (eCall [none, none, none, none] m_pays (eCons (eVar 0) (eCons (eVar 1) (eCons (eVar 2) (eCons (eVar 3) eNil))))) (eCons (eCall [none, none] m_least (eCons (eCall [none, none] m_times (eCons (eVar 0) (eCons (eL gTup (eCons (eVar 3) (eCons (eRet (.int 1)) eNil))) eNil))) (eCons (eVar 1) eNil))) eNil)))) sNil)
def m_ratio : List D → Res (D × List D) := fnM 4 4 false b_ratio
theorem ok_ratio (c : Base fa fn ex K mg) : Ok P w K mg base "ratio" 4 ["rent", "price", "k", "m"] [false, false, false, false] false m_ratio := mkOk c 7 7 rfl rfl (fun _ _ _ _ _ _ us hl => match us, hl with | [_, _, _, _], _ => rfl) fun F =>
  fn_D F sc_ratio rfl (by decide) (by decide) (kt := []) (os' := [false, false, false, false]) fun cdv A outer s H E hr => (dss_cons (os1 := [false, false, false, false]) (ds_ret rfl (dcall (ks := [none, none]) (ok_over c) rfl hr (by decide) (by rfl) (dc_val (dcall (ks := [none, none, none, none]) (ok_pays c) rfl hr (by decide) (by rfl) (dc_val (de_var (pv 0) rfl) (dc_val (de_var (pv 1) rfl) (dc_val (de_var (pv 2) rfl) (dc_val (de_var (pv 3) rfl) dc_nil)))) rfl (by decide)) (dc_val (dcall (ks := [none, none]) (ok_least c) rfl hr (by decide) (by rfl) (dc_val (dcall (ks := [none, none]) (ok_times c) rfl hr (by decide) (by rfl) (dc_val (de_var (pv 0) rfl) (dc_val (de_tup (da_cons (de_var (pv 3) rfl) (da_cons de_int da_nil))) dc_nil)) rfl (by decide)) (dc_val (de_var (pv 1) rfl) dc_nil)) rfl (by decide)) dc_nil)) rfl (by decide))) dss_nil)
abbrev N_worst_of : List Str := ["rent", "price", "days", "k", "found", "m", "number"]
theorem sc_worst_of : FnScope N_worst_of ["rent", "price", "days", "k"] (defScope (top 11)) := ⟨rfl, rfl, rfl, by decide +kernel, rfl, by decide +kernel, by decide +kernel⟩
def l_worst_of_1 : SM := (sSeq (sSet 6 (eCall [none, none, none, none] m_ratio (eCons (eVar 0) (eCons (eVar 1) (eCons (eVar 3) (eCons (eVar 5) eNil))))))
 (sSeq (sIf (eOr (e2 isC (eVar 4) (eRet .non)) (e1 gBl (eCall [none, none] m_less (eCons (e2 ixD (eVar 4) (eRet (.int 0))) (eCons (eVar 6) eNil)))))
 (sSeq (sSet 4 (eL gTup (eCons (eVar 6) (eCons (eVar 5) eNil))))
 sNil)
 sNil)
 sNil))
def b_worst_of : SM := (sSeq (sSet 4 (eRet .non))
 (sSeq (sFor (e2 rng2D (eRet (.int 1)) (e2 addD (eVar 2) (eRet (.int 1)))) (gSet 5) l_worst_of_1)
 (sSeq (sRet (eVar 4)) sNil)))
def m_worst_of : List D → Res (D × List D) := fnM 7 4 false b_worst_of
theorem ok_worst_of (c : Base fa fn ex K mg) : Ok P w K mg base "worst_of" 5 ["rent", "price", "days", "k"] [false, false, false, false] false m_worst_of := mkOk c 8 8 rfl rfl (fun _ _ _ _ _ _ us hl => match us, hl with | [_, _, _, _], _ => rfl) fun F =>
  fn_D F sc_worst_of rfl (by decide) (by decide) (kt := []) (os' := [false, false, false, false, false, false, false]) fun cdv A outer s H E hr => (dss_cons (os1 := [false, false, false, false, false, false, false])
 (ds_set (tg := .Constant .none 0 ⟨0, 0, 0, 0⟩) (fun h => ps_set (i := 4) sc_worst_of.nd rfl (by first | exact Or.inl rfl | exact Or.inr rfl) h) (by decide) (by decide) de_non)
 (dss_cons (os1 := [false, false, false, false, false, false, false])
 (ds_for (os1 := [false, false, false, false, false, false, false]) PassesOwn.never rfl (di_range2 (fun h => pi_range2 (by rfl) (c.free 39 rfl) h) de_int (dv_of (de_op op_add4 addD_ok addD_nx (de_var (pv 2) rfl) (dv_of de_int)))) (dg_name (pg_name (i := 5) sc_worst_of.nd rfl (by first | exact Or.inl rfl | exact Or.inr rfl)) (by decide) (by decide))
 (dss_cons (os1 := [false, false, false, false, false, false, false])
 (ds_set (tg := .Constant .none 0 ⟨0, 0, 0, 0⟩) (fun h => ps_set (i := 6) sc_worst_of.nd rfl (by first | exact Or.inl rfl | exact Or.inr rfl) h) (by decide) (by decide) (dcall (ks := [none, none, none, none]) (ok_ratio c) rfl hr (by decide) (by rfl) (dc_val (de_var (pv 0) rfl) (dc_val (de_var (pv 1) rfl) (dc_val (de_var (pv 3) rfl) (dc_val (de_var (pv 5) rfl) dc_nil)))) rfl (by decide)))
 (dss_cons (os1 := [false, false, false, false, false, false, false])
 (ds_if (PW.pt (dw_or (dt_cmp op_isC isC_ok isC_nx (nomark _) (de_var (pv 4) rfl) (dv_of de_non)) (pw_or1 (dt_val (dcall (ks := [none, none]) (ok_less c) rfl hr (by decide) (by rfl) (dc_val (de_ix (hr_cls hr) (by intro _ _; rfl) (de_var (pv 4) rfl) (dv_of de_int)) (dc_val (de_var (pv 6) rfl) dc_nil)) rfl (by decide))))))
 (dss_cons (os1 := [false, false, false, false, false, false, false])
 (ds_set (tg := .Constant .none 0 ⟨0, 0, 0, 0⟩) (fun h => ps_set (i := 4) sc_worst_of.nd rfl (by first | exact Or.inl rfl | exact Or.inr rfl) h) (by decide) (by decide) (de_tup (da_cons (de_var (pv 6) rfl) (da_cons (de_var (pv 5) rfl) da_nil))))
 dss_nil)
 dss_nil)
 dss_nil)))
 (dss_cons (os1 := [false, false, false, false, false, false, false]) (ds_ret rfl (de_var (pv 4) rfl)) dss_nil)))
abbrev N_best_rent : List Str := ["rent", "price", "days", "best", "worst", "k", "number", "m"]
theorem sc_best_rent : FnScope N_best_rent ["rent", "price", "days"] (defScope (top 12)) := ⟨rfl, rfl, rfl, by decide +kernel, rfl, by decide +kernel, by decide +kernel⟩
def l_best_rent_1 : SM := (sSeq (sAsg (eCall [none, none, none, none] m_worst_of (eCons (eVar 0) (eCons (eVar 1) (eCons (eVar 2) (eCons (eVar 5) eNil))))) (gTupT 2 (gsCons (gSet 6) (gsCons (gSet 7) gsNil))))
 (sSeq (sPut 4 setD1 (eVar 7) (eVar 5))
 (sSeq (sIf (eOr (e2 isC (eVar 3) (eRet .non)) (e1 gBl (eCall [none, none] m_less (eCons (eVar 6) (eCons (e2 ixD (eVar 3) (eRet (.int 0))) eNil)))))
 (sSeq (sSet 3 (eL gTup (eCons (eVar 6) (eCons (eVar 5) eNil))))
 sNil)
 sNil)
 sNil)))
def b_best_rent : SM := (sSeq (sSet 3 (eRet .non))
 (sSeq (sSet 4 (eRet (.dic false [])))
 (sSeq (sFor (e2 rng2D (eRet (.int 1)) (e2 addD (eVar 2) (eRet (.int 2)))) (gSet 5) l_best_rent_1)
 (sSeq (sRet (eL gTup (eCons (e2 ixD (eVar 3) (eRet (.int 0))) (eCons (e2 ixD (eVar 3) (eRet (.int 1))) (eCons (eVar 4) eNil))))) sNil))))
def m_best_rent : List D → Res (D × List D) := fnM 8 3 false b_best_rent
theorem ok_best_rent (c : Base fa fn ex K mg) : Ok P w K mg base "best_rent" 6 ["rent", "price", "days"] [false, false, false] false m_best_rent := mkOk c 9 9 rfl rfl (fun _ _ _ _ _ _ us hl => match us, hl with | [_, _, _], _ => rfl) fun F =>
  fn_D F sc_best_rent rfl (by decide) (by decide) (kt := []) (os' := [false, false, false, false, false, false, false, false]) fun cdv A outer s H E hr => (dss_cons (os1 := [false, false, false, false, false, false, false, false])
 (ds_set (tg := .Constant .none 0 ⟨0, 0, 0, 0⟩) (fun h => ps_set (i := 3) sc_best_rent.nd rfl (by first | exact Or.inl rfl | exact Or.inr rfl) h) (by decide) (by decide) de_non)
 (dss_cons (os1 := [false, false, false, false, true, false, false, false])
 (ds_setO (tg := .Constant .none 0 ⟨0, 0, 0, 0⟩) (fun h => ps_set (i := 4) sc_best_rent.nd rfl (by first | exact Or.inl rfl | exact Or.inr rfl) h) (by decide) (by decide) do_newK)
 (dss_cons (os1 := [false, false, false, false, true, false, false, false])
 (ds_for (os1 := [false, false, false, false, true, false, false, false]) PassesOwn.never rfl (di_range2 (fun h => pi_range2 (by rfl) (c.free 39 rfl) h) de_int (dv_of (de_op op_add4 addD_ok addD_nx (de_var (pv 2) rfl) (dv_of de_int)))) (dg_name (pg_name (i := 5) sc_best_rent.nd rfl (by first | exact Or.inl rfl | exact Or.inr rfl)) (by decide) (by decide))
 (dss_cons (os1 := [false, false, false, false, true, false, false, false])
 (ds_asg (fun h g => ps_asg h g) (dcall (ks := [none, none, none, none]) (ok_worst_of c) rfl hr (by decide) (by rfl) (dc_val (de_var (pv 0) rfl) (dc_val (de_var (pv 1) rfl) (dc_val (de_var (pv 2) rfl) (dc_val (de_var (pv 5) rfl) dc_nil)))) rfl (by decide)) (dg_tup rfl (dgs_cons (os1 := [false, false, false, false, true, false, false, false]) (dg_name (pg_name (i := 6) sc_best_rent.nd rfl (by first | exact Or.inl rfl | exact Or.inr rfl)) (by decide) (by decide)) (dgs_cons (os1 := [false, false, false, false, true, false, false, false]) (dg_name (pg_name (i := 7) sc_best_rent.nd rfl (by first | exact Or.inl rfl | exact Or.inr rfl)) (by decide) (by decide)) dgs_nil))))
 (dss_cons (os1 := [false, false, false, false, true, false, false, false])
 (ds_put rfl (pv 4) (de_var (pv 7) rfl) (dv_var (pv 5)) (hr_cls hr) (fun h g => ps_asg h g))
 (dss_cons (os1 := [false, false, false, false, true, false, false, false])
 (ds_if (PW.pt (dw_or (dt_cmp op_isC isC_ok isC_nx (nomark _) (de_var (pv 3) rfl) (dv_of de_non)) (pw_or1 (dt_val (dcall (ks := [none, none]) (ok_less c) rfl hr (by decide) (by rfl) (dc_val (de_var (pv 6) rfl) (dc_val (de_ix (hr_cls hr) (by intro _ _; rfl) (de_var (pv 3) rfl) (dv_of de_int)) dc_nil)) rfl (by decide))))))
 (dss_cons (os1 := [false, false, false, false, true, false, false, false])
 (ds_set (tg := .Constant .none 0 ⟨0, 0, 0, 0⟩) (fun h => ps_set (i := 3) sc_best_rent.nd rfl (by first | exact Or.inl rfl | exact Or.inr rfl) h) (by decide) (by decide) (de_tup (da_cons (de_var (pv 6) rfl) (da_cons (de_var (pv 5) rfl) da_nil))))
 dss_nil)
 dss_nil)
 dss_nil))))
 (dss_fz 4 (by decide) (dss_cons (os1 := [false, false, false, false, false, false, false, false]) (ds_ret rfl (de_tup (da_cons (de_ix (hr_cls hr) (by intro _ _; rfl) (de_var (pv 3) rfl) (dv_of de_int)) (da_cons (de_ix (hr_cls hr) (by intro _ _; rfl) (de_var (pv 3) rfl) (dv_of de_int)) (da_cons (de_var (pv 4) rfl) da_nil))))) dss_nil)))))
abbrev N_judge_rent : List Str := ["rent", "price", "days", "number", "k", "worst", "other"]
theorem sc_judge_rent : FnScope N_judge_rent ["rent", "price", "days", "number", "k", "worst"] (defScope (top 14)) := ⟨rfl, rfl, rfl, by decide +kernel, rfl, by decide +kernel, by decide +kernel⟩
def l_judge_rent_1 : SM := (sSeq (sIf (eOr (eNot (eChain (α := Unit) (cmpD fun i j => decide (i ≤ j)) (cmpD fun i j => decide (i ≤ j)) (eRet (.int 1)) (e2 ixD (eVar 5) (eVar 6)) (eVar 2))) (e1 gBl (eCall [none, none] m_less (eCons (eCall [none, none, none, none] m_ratio (eCons (eVar 0) (eCons (eVar 1) (eCons (eVar 6) (eCons (e2 ixD (eVar 5) (eVar 6)) eNil))))) (eCons (eVar 3) eNil)))))
 (sSeq (sRet (eRet (.bl false))) sNil)
 sNil)
 sNil)
def b_judge_rent : SM := (sSeq (sIf (eOr (eNot (eChain (α := Unit) (cmpD fun i j => decide (i ≤ j)) (cmpD fun i j => decide (i ≤ j)) (eRet (.int 1)) (eVar 4) (e2 addD (eVar 2) (eRet (.int 1))))) (e2 neD (e1 sortedI (eVar 5)) (e2 lrngD (eRet (.int 1)) (e2 addD (eVar 2) (eRet (.int 2))))))
 (sSeq (sRet (eRet (.bl false))) sNil)
 sNil)
 (sSeq (sIf (e1 gBl (eCall [none, none] m_less (eCons (eVar 3) (eCons (e2 ixD (eCall [none, none, none, none] m_worst_of (eCons (eVar 0) (eCons (eVar 1) (eCons (eVar 2) (eCons (eVar 4) eNil))))) (eRet (.int 0))) eNil))))
 (sSeq (sRet (eRet (.bl false))) sNil)
 sNil)
 (sSeq (forA 5 (gSet 6) l_judge_rent_1)
 (sSeq (sRet (eRet (.bl true))) sNil))))
def m_judge_rent : List D → Res (D × List D) := fnM 7 6 false b_judge_rent
theorem ok_judge_rent (c : Base fa fn ex K mg) : Ok P w K mg base "judge_rent" 6 ["rent", "price", "days", "number", "k", "worst"] [false, false, false, false, false, false] false m_judge_rent := mkOk c 10 10 rfl rfl (fun _ _ _ _ _ _ us hl => match us, hl with | [_, _, _, _, _, _], _ => rfl) fun F =>
  fn_D F sc_judge_rent rfl (by decide) (by decide) (kt := []) (os' := [false, false, false, false, false, false, false]) fun cdv A outer s H E hr => (dss_cons (os1 := [false, false, false, false, false, false, false])
 (ds_if (PW.pt (dw_or (dt_not (dt_chain op_le op_le (cmpD_ok fun i j => decide (i ≤ j)) (cmpD_ok fun i j => decide (i ≤ j)) (cmpD_nx _) (cmpD_nx _) de_int (de_var (pv 4) rfl) (dv_of (de_op op_add4 addD_ok addD_nx (de_var (pv 2) rfl) (dv_of de_int))))) (pw_or1 (dt_cmp (op_neD (hr_cls2 hr)) neD_ok neD_nx (nomark _) (de_of (de_call1 (fun h => pe_callB (call_sortI rfl) (by rfl) (c.free 40 rfl) (by first | exact boot_sorted | exact PySem.boot_sorted | exact PyProof.Rows.boot_sorted | exact L2.boot_sorted) h) sortedI_ok sortedI_nx (dv_var (pv 5)))) (dv_of (de_of (do_lrng2 rfl (by rfl) (c.free 38 rfl) (by rfl) (c.free 39 rfl) de_int (dv_of (de_op op_add4 addD_ok addD_nx (de_var (pv 2) rfl) (dv_of de_int))))))))))
 (dss_cons (os1 := [false, false, false, false, false, false, false]) (ds_ret rfl de_bl) dss_nil)
 dss_nil)
 (dss_cons (os1 := [false, false, false, false, false, false, false])
 (ds_if (dt_val (dcall (ks := [none, none]) (ok_less c) rfl hr (by decide) (by rfl) (dc_val (de_var (pv 3) rfl) (dc_val (de_ix (hr_cls hr) (by intro _ _; rfl) (dcall (ks := [none, none, none, none]) (ok_worst_of c) rfl hr (by decide) (by rfl) (dc_val (de_var (pv 0) rfl) (dc_val (de_var (pv 1) rfl) (dc_val (de_var (pv 2) rfl) (dc_val (de_var (pv 4) rfl) dc_nil)))) rfl (by decide)) (dv_of de_int)) dc_nil)) rfl (by decide)))
 (dss_cons (os1 := [false, false, false, false, false, false, false]) (ds_ret rfl de_bl) dss_nil)
 dss_nil)
 (dss_cons (os1 := [false, false, false, false, false, false, false])
 (ds_forA (os1 := [false, false, false, false, false, false, false]) PassesOwn.never rfl (pv 5) rfl (dg_name (pg_name (i := 6) sc_judge_rent.nd rfl (by first | exact Or.inl rfl | exact Or.inr rfl)) (by decide) (by decide))
 (dss_cons (os1 := [false, false, false, false, false, false, false])
 (ds_if (PW.pt (dw_or (dt_not (dt_chain op_le op_le (cmpD_ok fun i j => decide (i ≤ j)) (cmpD_ok fun i j => decide (i ≤ j)) (cmpD_nx _) (cmpD_nx _) de_int (de_ix (hr_cls hr) (by intro _ _; rfl) (de_var (pv 5) rfl) (dv_var (pv 6))) (dv_var (pv 2)))) (pw_or1 (dt_val (dcall (ks := [none, none]) (ok_less c) rfl hr (by decide) (by rfl) (dc_val (dcall (ks := [none, none, none, none]) (ok_ratio c) rfl hr (by decide) (by rfl) (dc_val (de_var (pv 0) rfl) (dc_val (de_var (pv 1) rfl) (dc_val (de_var (pv 6) rfl) (dc_val (de_ix (hr_cls hr) (by intro _ _; rfl) (de_var (pv 5) rfl) (dv_var (pv 6))) dc_nil)))) rfl (by decide)) (dc_val (de_var (pv 3) rfl) dc_nil)) rfl (by decide))))))
 (dss_cons (os1 := [false, false, false, false, false, false, false]) (ds_ret rfl de_bl) dss_nil)
 dss_nil)
 dss_nil))
 (dss_cons (os1 := [false, false, false, false, false, false, false]) (ds_ret rfl de_bl) dss_nil))))
abbrev N_f_law_mixed : List Str := ["number", "place", "first", "second", "third"]
theorem sc_f_law_mixed : FnScope N_f_law_mixed ["number", "place"] (defScope (top 16)) := ⟨rfl, rfl, rfl, by decide +kernel, rfl, by decide +kernel, by decide +kernel⟩
def b_f_law_mixed : SM := (sSeq (sSet 2 (e2 modD (e1 intD (e2 addD (e2 addD (e2 mulD (eVar 0) (eRet (.int 48271))) (e2 mulD (eVar 1) (eRet (.int 69621)))) (eRet (.int 11)))) (eRet (.int 618970019642690137449562111))))
 (sSeq (sSet 3 (e2 modD (e1 intD (e2 addD (e2 addD (e2 mulD (eVar 2) (eVar 2)) (e2 mulD (eRet (.int 7)) (eVar 2))) (eVar 1))) (eRet (.int 162259276829213363391578010288127))))
 (sSeq (sSet 4 (e2 modD (e1 intD (e2 addD (e2 mulD (eVar 3) (eVar 3)) (eVar 2))) (eRet (.int 618970019642690137449562111))))
 (sSeq (sRet (e2 addD (e2 mulD (eVar 3) (eRet (.int 618970019642690137449562111))) (eVar 4))) sNil))))
def m_f_law_mixed : List D → Res (D × List D) := fnM 5 2 false b_f_law_mixed
theorem ok_f_law_mixed (c : Base fa fn ex K mg) : Ok P w K mg base "_law_mixed" 1 ["number", "place"] [false, false] false m_f_law_mixed := mkOk c 11 11 rfl rfl (fun _ _ _ _ _ _ us hl => match us, hl with | [_, _], _ => rfl) fun F =>
  fn_D F sc_f_law_mixed rfl (by decide) (by decide) (kt := []) (os' := [false, false, false, false, false]) fun cdv A outer s H E hr => (dss_cons (os1 := [false, false, false, false, false])
 (ds_set (tg := .Constant .none 0 ⟨0, 0, 0, 0⟩) (fun h => ps_set (i := 2) sc_f_law_mixed.nd rfl (by first | exact Or.inl rfl | exact Or.inr rfl) h) (by decide) (by decide) (de_op op_modN modD_ok modD_nx (de_call1 (fun h => pe_callTy call_int1 (by rfl) (c.free 35 rfl) (by first | exact boot_int | exact PySem.boot_int | exact PyProof.Rows.boot_int | exact L2.boot_int) h) intD_ok intD_nx (dv_of (de_op op_add4 addD_ok addD_nx (de_op op_add4 addD_ok addD_nx (de_op op_mul2 mulD_ok mulD_nx (de_var (pv 0) rfl) (dv_of de_int)) (dv_of (de_op op_mul2 mulD_ok mulD_nx (de_var (pv 1) rfl) (dv_of de_int)))) (dv_of de_int)))) (dv_of de_int)))
 (dss_cons (os1 := [false, false, false, false, false])
 (ds_set (tg := .Constant .none 0 ⟨0, 0, 0, 0⟩) (fun h => ps_set (i := 3) sc_f_law_mixed.nd rfl (by first | exact Or.inl rfl | exact Or.inr rfl) h) (by decide) (by decide) (de_op op_modN modD_ok modD_nx (de_call1 (fun h => pe_callTy call_int1 (by rfl) (c.free 35 rfl) (by first | exact boot_int | exact PySem.boot_int | exact PyProof.Rows.boot_int | exact L2.boot_int) h) intD_ok intD_nx (dv_of (de_op op_add4 addD_ok addD_nx (de_op op_add4 addD_ok addD_nx (de_op op_mul2 mulD_ok mulD_nx (de_var (pv 2) rfl) (dv_var (pv 2))) (dv_of (de_op op_mul2 mulD_ok mulD_nx de_int (dv_var (pv 2))))) (dv_var (pv 1))))) (dv_of de_int)))
 (dss_cons (os1 := [false, false, false, false, false])
 (ds_set (tg := .Constant .none 0 ⟨0, 0, 0, 0⟩) (fun h => ps_set (i := 4) sc_f_law_mixed.nd rfl (by first | exact Or.inl rfl | exact Or.inr rfl) h) (by decide) (by decide) (de_op op_modN modD_ok modD_nx (de_call1 (fun h => pe_callTy call_int1 (by rfl) (c.free 35 rfl) (by first | exact boot_int | exact PySem.boot_int | exact PyProof.Rows.boot_int | exact L2.boot_int) h) intD_ok intD_nx (dv_of (de_op op_add4 addD_ok addD_nx (de_op op_mul2 mulD_ok mulD_nx (de_var (pv 3) rfl) (dv_var (pv 3))) (dv_var (pv 2))))) (dv_of de_int)))
 (dss_cons (os1 := [false, false, false, false, false]) (ds_ret rfl (de_op op_add4 addD_ok addD_nx (de_op op_mul2 mulD_ok mulD_nx (de_var (pv 3) rfl) (dv_of de_int)) (dv_var (pv 4)))) dss_nil))))
abbrev N_f_law_rest : List Str := ["script", "place", "fills", "number"]
theorem sc_f_law_rest : FnScope N_f_law_rest ["script", "place", "fills"] (defScope (top 17)) := ⟨rfl, rfl, rfl, by decide +kernel, rfl, by decide +kernel, by decide +kernel⟩
def b_f_law_rest : SM := (sSeq (sSet 3 (eRet (.int 0)))
 (sSeq (sIf (e2 (cmpD fun i j => decide (j < i)) (e1 lenD (eVar 0)) (eRet (.int 0)))
 (sSeq (sSet 3 (e1 intD (e2 ixD (eVar 0) (e2 modD (e1 intD (eVar 1)) (e1 lenD (eVar 0))))))
 sNil)
 sNil)
 (sSeq (sIf (e2 (cmpD fun i j => decide (i < j)) (eVar 3) (eRet (.int 0)))
 (sSeq (sSet 3 (e2 subD (eRet (.int 1)) (e2 mulD (eRet (.int 2)) (eVar 3))))
 sNil)
 sNil)
 (sSeq (sIf (eAnd (e2 eqD (eVar 2) (eRet (.int 0))) (eAnd (e2 (cmpD fun i j => decide (i < j)) (eVar 1) (e1 lenD (eVar 0))) (e2 (cmpD fun i j => decide (j ≤ i)) (eVar 3) (e2 powD (eRet (.int 10)) (eRet (.int 18))))))
 (sSeq (sRet (e2 subD (eVar 3) (e2 powD (eRet (.int 10)) (eRet (.int 18))))) sNil)
 sNil)
 (sSeq (sRet (eCall [none, none] m_f_law_mixed (eCons (e2 addD (eVar 3) (e2 mulD (eVar 2) (eRet (.int 1000003)))) (eCons (eVar 1) eNil)))) sNil)))))
def m_f_law_rest : List D → Res (D × List D) := fnM 4 3 false b_f_law_rest
theorem ok_f_law_rest (c : Base fa fn ex K mg) : Ok P w K mg base "_law_rest" 2 ["script", "place", "fills"] [false, false, false] false m_f_law_rest := mkOk c 12 12 rfl rfl (fun _ _ _ _ _ _ us hl => match us, hl with | [_, _, _], _ => rfl) fun F =>
  fn_D F sc_f_law_rest rfl (by decide) (by decide) (kt := []) (os' := [false, false, false, false]) fun cdv A outer s H E hr => (dss_cons (os1 := [false, false, false, false])
 (ds_set (tg := .Constant .none 0 ⟨0, 0, 0, 0⟩) (fun h => ps_set (i := 3) sc_f_law_rest.nd rfl (by first | exact Or.inl rfl | exact Or.inr rfl) h) (by decide) (by decide) de_int)
 (dss_cons (os1 := [false, false, false, false])
 (ds_if (dt_cmp op_gt (cmpD_ok fun i j => decide (j < i)) (cmpD_nx _) (nomark _) (de_call1 (fun h => pe_callB call_len2 (by rfl) (c.free 37 rfl) (by first | exact boot_len | exact PySem.boot_len | exact PyProof.Rows.boot_len | exact L2.boot_len) h) lenD_ok lenD_nx (dv_var (pv 0))) (dv_of de_int))
 (dss_cons (os1 := [false, false, false, false])
 (ds_set (tg := .Constant .none 0 ⟨0, 0, 0, 0⟩) (fun h => ps_set (i := 3) sc_f_law_rest.nd rfl (by first | exact Or.inl rfl | exact Or.inr rfl) h) (by decide) (by decide) (de_call1 (fun h => pe_callTy call_int1 (by rfl) (c.free 35 rfl) (by first | exact boot_int | exact PySem.boot_int | exact PyProof.Rows.boot_int | exact L2.boot_int) h) intD_ok intD_nx (dv_of (de_ix (hr_cls hr) (by intro _ _; rfl) (de_var (pv 0) rfl) (dv_of (de_op op_modN modD_ok modD_nx (de_call1 (fun h => pe_callTy call_int1 (by rfl) (c.free 35 rfl) (by first | exact boot_int | exact PySem.boot_int | exact PyProof.Rows.boot_int | exact L2.boot_int) h) intD_ok intD_nx (dv_var (pv 1))) (dv_of (de_call1 (fun h => pe_callB call_len2 (by rfl) (c.free 37 rfl) (by first | exact boot_len | exact PySem.boot_len | exact PyProof.Rows.boot_len | exact L2.boot_len) h) lenD_ok lenD_nx (dv_var (pv 0))))))))))
 dss_nil)
 dss_nil)
 (dss_cons (os1 := [false, false, false, false])
 (ds_if (dt_cmp op_lt (cmpD_ok fun i j => decide (i < j)) (cmpD_nx _) (nomark _) (de_var (pv 3) rfl) (dv_of de_int))
 (dss_cons (os1 := [false, false, false, false])
 (ds_set (tg := .Constant .none 0 ⟨0, 0, 0, 0⟩) (fun h => ps_set (i := 3) sc_f_law_rest.nd rfl (by first | exact Or.inl rfl | exact Or.inr rfl) h) (by decide) (by decide) (de_op op_sub subD_ok subD_nx de_int (dv_of (de_op op_mul2 mulD_ok mulD_nx de_int (dv_var (pv 3))))))
 dss_nil)
 dss_nil)
 (dss_cons (os1 := [false, false, false, false])
 (ds_if (PW.pt (dw_and (dt_cmp (op_eqD (hr_cls2 hr)) eqD_ok eqD_nx (nomark _) (de_var (pv 2) rfl) (dv_of de_int)) (dw_and (dt_cmp op_lt (cmpD_ok fun i j => decide (i < j)) (cmpD_nx _) (nomark _) (de_var (pv 1) rfl) (dv_of (de_call1 (fun h => pe_callB call_len2 (by rfl) (c.free 37 rfl) (by first | exact boot_len | exact PySem.boot_len | exact PyProof.Rows.boot_len | exact L2.boot_len) h) lenD_ok lenD_nx (dv_var (pv 0))))) (pw_and1 (dt_cmp op_ge (cmpD_ok fun i j => decide (j ≤ i)) (cmpD_nx _) (nomark _) (de_var (pv 3) rfl) (dv_of (de_op op_pow powD_ok powD_nx de_int (dv_of de_int))))))))
 (dss_cons (os1 := [false, false, false, false]) (ds_ret rfl (de_op op_sub subD_ok subD_nx (de_var (pv 3) rfl) (dv_of (de_op op_pow powD_ok powD_nx de_int (dv_of de_int))))) dss_nil)
 dss_nil)
 (dss_cons (os1 := [false, false, false, false]) (ds_ret rfl (dcall (ks := [none, none]) (ok_f_law_mixed c) rfl hr (by decide) (by rfl) (dc_val (de_op op_add4 addD_ok addD_nx (de_var (pv 3) rfl) (dv_of (de_op op_mul2 mulD_ok mulD_nx (de_var (pv 2) rfl) (dv_of de_int)))) (dc_val (de_var (pv 1) rfl) dc_nil)) rfl (by decide))) dss_nil)))))
abbrev N_f_law_pool : List Str := ["script"]
theorem sc_f_law_pool : FnScope N_f_law_pool ["script"] (defScope (top 18)) := ⟨rfl, rfl, rfl, by decide +kernel, rfl, by decide +kernel, by decide +kernel⟩
def b_f_law_pool : SM := (sSeq (sRet (eL gLst (eCons (eVar 0) (eCons (eRet (.int 0)) (eCons (eCall [none, none, none] m_f_law_rest (eCons (eVar 0) (eCons (eRet (.int 0)) (eCons (eRet (.int 0)) eNil)))) (eCons (eRet (.int 0)) eNil)))))) sNil)
def m_f_law_pool : List D → Res (D × List D) := fnM 1 1 true b_f_law_pool
theorem ok_f_law_pool (c : Base fa fn ex K mg) : Ok P w K mg base "_law_pool" 3 ["script"] [false] true m_f_law_pool := mkOk c 13 13 rfl rfl (fun _ _ _ _ _ _ us hl => match us, hl with | [_], _ => rfl) fun F =>
  fn_D F sc_f_law_pool rfl (by decide) (by decide) (kt := []) (os' := [false]) fun cdv A outer s H E hr => (dss_cons (os1 := [false]) (ds_retO rfl (do_lst (k := 0) (da_cons (de_var (pv 0) rfl) (da_cons de_int (da_cons (dcall (ks := [none, none, none]) (ok_f_law_rest c) rfl hr (by decide) (by rfl) (dc_val (de_var (pv 0) rfl) (dc_val de_int (dc_val de_int dc_nil))) rfl (by decide)) (da_cons de_int da_nil)))))) dss_nil)
abbrev N_f_law_next : List Str := ["pool"]
theorem sc_f_law_next : FnScope N_f_law_next ["pool"] (defScope (top 19)) := ⟨rfl, rfl, rfl, by decide +kernel, rfl, by decide +kernel, by decide +kernel⟩
def b_f_law_next : SM := (sSeq (sPut 0 setD1 (e2 addD (e2N ixD 0 (eRet (.int 1))) (eRet (.int 1))) (eRet (.int 1)))
 (sSeq (sPut 0 setD1 (eCall [none, none, none] m_f_law_rest (eCons (e2N ixD 0 (eRet (.int 0))) (eCons (e2N ixD 0 (eRet (.int 1))) (eCons (eRet (.int 0)) eNil)))) (eRet (.int 2)))
 (sSeq (sPut 0 setD1 (eRet (.int 0)) (eRet (.int 3)))
 sNil)))
def m_f_law_next : List D → Res (D × List D) := fnM 1 1 false b_f_law_next
theorem ok_f_law_next (c : Base fa fn ex K mg) : Ok P w K mg base "_law_next" 3 ["pool"] [true] false m_f_law_next := mkOk c 14 14 rfl rfl (fun _ _ _ _ _ _ us hl => match us, hl with | [_], _ => rfl) fun F =>
  fn_D F sc_f_law_next rfl (by decide) (by decide) (kt := []) (os' := [true]) fun cdv A outer s H E hr => (dss_cons (os1 := [true])
 (ds_put rfl (pv 0) (de_op op_add4 addD_ok addD_nx (de_ixN (hr_cls hr) (by intro _ _; rfl) (pv 0) (dv_of de_int)) (dv_of de_int)) (dv_of de_int) (hr_cls hr) (fun h g => ps_asg h g))
 (dss_cons (os1 := [true])
 (ds_put rfl (pv 0) (dcall (ks := [none, none, none]) (ok_f_law_rest c) rfl hr (by decide) (by rfl) (dc_val (de_ixN (hr_cls hr) (by intro _ _; rfl) (pv 0) (dv_of de_int)) (dc_val (de_ixN (hr_cls hr) (by intro _ _; rfl) (pv 0) (dv_of de_int)) (dc_val de_int dc_nil))) rfl (by decide)) (dv_of de_int) (hr_cls hr) (fun h g => ps_asg h g))
 (dss_cons (os1 := [true])
 (ds_put rfl (pv 0) de_int (dv_of de_int) (hr_cls hr) (fun h g => ps_asg h g))
 dss_nil)))
abbrev N_f_law_draw : List Str := ["pool", "limit", "value"]
theorem sc_f_law_draw : FnScope N_f_law_draw ["pool", "limit"] (defScope (top 20)) := ⟨rfl, rfl, rfl, by decide +kernel, rfl, by decide +kernel, by decide +kernel⟩
def b_f_law_draw : SM := (sSeq (sIf (e2 (cmpD fun i j => decide (i ≤ j)) (e2N ixD 0 (eRet (.int 2))) (eRet (.int 1)))
 (sSeq (sPut 0 setD1 (e2 addD (e2N ixD 0 (eRet (.int 3))) (eRet (.int 1))) (eRet (.int 3)))
 (sSeq (sPut 0 setD1 (eCall [none, none, none] m_f_law_rest (eCons (e2N ixD 0 (eRet (.int 0))) (eCons (e2N ixD 0 (eRet (.int 1))) (eCons (e2N ixD 0 (eRet (.int 3))) eNil)))) (eRet (.int 2)))
 sNil))
 sNil)
 (sSeq (sSet 2 (e2 modD (e1 intD (e2N ixD 0 (eRet (.int 2)))) (eVar 1)))
 (sSeq (sPut 0 setD1 (e2 fdivD (e1 intD (e2N ixD 0 (eRet (.int 2)))) (eVar 1)) (eRet (.int 2)))
 (sSeq (sRet (eVar 2)) sNil))))
def m_f_law_draw : List D → Res (D × List D) := fnM 3 2 false b_f_law_draw
theorem ok_f_law_draw (c : Base fa fn ex K mg) : Ok P w K mg base "_law_draw" 3 ["pool", "limit"] [true, false] false m_f_law_draw := mkOk c 15 15 rfl rfl (fun _ _ _ _ _ _ us hl => match us, hl with | [_, _], _ => rfl) fun F =>
  fn_D F sc_f_law_draw rfl (by decide) (by decide) (kt := []) (os' := [false, false, false]) fun cdv A outer s H E hr => (dss_cons (os1 := [true, false, false])
 (ds_if (dt_cmp op_le (cmpD_ok fun i j => decide (i ≤ j)) (cmpD_nx _) (nomark _) (de_ixN (hr_cls hr) (by intro _ _; rfl) (pv 0) (dv_of de_int)) (dv_of de_int))
 (dss_cons (os1 := [true, false, false])
 (ds_put rfl (pv 0) (de_op op_add4 addD_ok addD_nx (de_ixN (hr_cls hr) (by intro _ _; rfl) (pv 0) (dv_of de_int)) (dv_of de_int)) (dv_of de_int) (hr_cls hr) (fun h g => ps_asg h g))
 (dss_cons (os1 := [true, false, false])
 (ds_put rfl (pv 0) (dcall (ks := [none, none, none]) (ok_f_law_rest c) rfl hr (by decide) (by rfl) (dc_val (de_ixN (hr_cls hr) (by intro _ _; rfl) (pv 0) (dv_of de_int)) (dc_val (de_ixN (hr_cls hr) (by intro _ _; rfl) (pv 0) (dv_of de_int)) (dc_val (de_ixN (hr_cls hr) (by intro _ _; rfl) (pv 0) (dv_of de_int)) dc_nil))) rfl (by decide)) (dv_of de_int) (hr_cls hr) (fun h g => ps_asg h g))
 dss_nil))
 dss_nil)
 (dss_cons (os1 := [true, false, false])
 (ds_set (tg := .Constant .none 0 ⟨0, 0, 0, 0⟩) (fun h => ps_set (i := 2) sc_f_law_draw.nd rfl (by first | exact Or.inl rfl | exact Or.inr rfl) h) (by decide) (by decide) (de_op op_modN modD_ok modD_nx (de_call1 (fun h => pe_callTy call_int1 (by rfl) (c.free 35 rfl) (by first | exact boot_int | exact PySem.boot_int | exact PyProof.Rows.boot_int | exact L2.boot_int) h) intD_ok intD_nx (dv_of (de_ixN (hr_cls hr) (by intro _ _; rfl) (pv 0) (dv_of de_int)))) (dv_var (pv 1))))
 (dss_cons (os1 := [true, false, false])
 (ds_put rfl (pv 0) (de_op op_fdivA fdivD_ok fdivD_nx (de_call1 (fun h => pe_callTy call_int1 (by rfl) (c.free 35 rfl) (by first | exact boot_int | exact PySem.boot_int | exact PyProof.Rows.boot_int | exact L2.boot_int) h) intD_ok intD_nx (dv_of (de_ixN (hr_cls hr) (by intro _ _; rfl) (pv 0) (dv_of de_int)))) (dv_var (pv 1))) (dv_of de_int) (hr_cls hr) (fun h g => ps_asg h g))
 (dss_cons (os1 := [false, false, false]) (ds_ret rfl (de_var (pv 2) rfl)) dss_nil))))
abbrev N_f_law_pick : List Str := ["pool", "options"]
theorem sc_f_law_pick : FnScope N_f_law_pick ["pool", "options"] (defScope (top 21)) := ⟨rfl, rfl, rfl, by decide +kernel, rfl, by decide +kernel, by decide +kernel⟩
def b_f_law_pick : SM := (sSeq (sRet (e2 ixD (eVar 1) (eCall [some 0, none] m_f_law_draw (eConsO 0 (eCons (e1 lenD (eVar 1)) eNil))))) sNil)
def m_f_law_pick : List D → Res (D × List D) := fnM 2 2 false b_f_law_pick
theorem ok_f_law_pick (c : Base fa fn ex K mg) : Ok P w K mg base "_law_pick" 4 ["pool", "options"] [true, false] false m_f_law_pick := mkOk c 16 16 rfl rfl (fun _ _ _ _ _ _ us hl => match us, hl with | [_, _], _ => rfl) fun F =>
  fn_D F sc_f_law_pick rfl (by decide) (by decide) (kt := []) (os' := [false, false]) fun cdv A outer s H E hr => (dss_cons (os1 := [false, false]) (ds_ret rfl (de_ix (hr_cls hr) (by intro _ _; rfl) (de_var (pv 1) rfl) (dv_of (dcall (ks := [some 0, none]) (ok_f_law_draw c) rfl hr (by decide) (by rfl) (dc_own (pv 0) (dc_val (de_call1 (fun h => pe_callB call_len2 (by rfl) (c.free 37 rfl) (by first | exact boot_len | exact PySem.boot_len | exact PyProof.Rows.boot_len | exact L2.boot_len) h) lenD_ok lenD_nx (dv_var (pv 1))) dc_nil)) rfl (by decide))))) dss_nil)
abbrev N_f_law_same : List Str := ["answer", "due", "key", "k"]
theorem sc_f_law_same : FnScope N_f_law_same ["answer", "due"] (defScope (top 22)) := ⟨rfl, rfl, rfl, by decide +kernel, rfl, by decide +kernel, by decide +kernel⟩
def b_f_law_same (rec : List D → Res (D × List D)) : SM := (sSeq (sIf (e1 gBl (e1 (isiD "dict") (eVar 1)))
 (sSeq (sIf (eOr (eNot (e1 gBl (e1 (isiD "dict") (eVar 0)))) (e2 neD (e1 lenD (eVar 0)) (e1 lenD (eVar 1))))
 (sSeq (sRet (eRet (.bl false))) sNil)
 sNil)
 (sSeq (sRet (e1 allD (eCompA [2] 1 (gSet 2) eYes (eBl (eAnd (e2 inD (eVar 2) (eVar 0)) (eAsB (eCall [none, none] rec (eCons (e2 ixD (eVar 0) (eVar 2)) (eCons (e2 ixD (eVar 1) (eVar 2)) eNil))))))))) sNil))
 sNil)
 (sSeq (sIf (eOr (e1 gBl (e1 (isiD "list") (eVar 1))) (e1 gBl (e1 (isiD "tuple") (eVar 1))))
 (sSeq (sIf (eOr (e2 neD (e1 (isiD "list") (eVar 1)) (e1 (isiD "list") (eVar 0))) (e2 neD (e1 (isiD "tuple") (eVar 1)) (e1 (isiD "tuple") (eVar 0))))
 (sSeq (sRet (eRet (.bl false))) sNil)
 sNil)
 (sSeq (sRet (eBl (eAnd (e2 eqD (e1 lenD (eVar 0)) (e1 lenD (eVar 1))) (eAsB (e1 allD (eComp [3] (e1 rng1D (e1 lenD (eVar 1))) (gSet 3) eYes (eCall [none, none] rec (eCons (e2 ixD (eVar 0) (eVar 3)) (eCons (e2 ixD (eVar 1) (eVar 3)) eNil))))))))) sNil))
 sNil)
 (sSeq (sIf (e1 gBl (e1 (isiD "str") (eVar 1)))
 (sSeq (sRet (eBl (eAnd (eAsB (e1 (isiD "str") (eVar 0))) (e2 eqD (eVar 0) (eVar 1))))) sNil)
 sNil)
 (sSeq (sIf (eOr (e2 isC (eVar 1) (eRet .non)) (eOr (e2 isC (eVar 1) (eRet (.bl true))) (e2 isC (eVar 1) (eRet (.bl false)))))
 (sSeq (sRet (eBl (eOr (eAnd (e2 isC (eVar 1) (eRet .non)) (e2 isC (eVar 0) (eRet .non))) (eOr (eAnd (e2 isC (eVar 1) (eRet (.bl true))) (e2 isC (eVar 0) (eRet (.bl true)))) (eAnd (e2 isC (eVar 1) (eRet (.bl false))) (e2 isC (eVar 0) (eRet (.bl false)))))))) sNil)
 sNil)
 (sSeq (sRet (eBl (eAnd (eAsB (e1 (isiD "int") (eVar 0))) (eAnd (eNot (eAsB (e1 (isiD "bool") (eVar 0)))) (e2 eqD (eVar 0) (eVar 1)))))) sNil)))))
def m_f_law_same : Nat → List D → Res (D × List D)
  | 0 => fun _ => .bad
  | n + 1 => fnM 4 2 false (b_f_law_same (m_f_law_same n))
theorem ok_f_law_same (c : Base fa fn ex K mg) : ∀ n : Nat, Ok P w K mg base "_law_same" (0 + n + 1) ["answer", "due"] [false, false] false (m_f_law_same n)
  | 0 => mkOk0 c 17 17 rfl rfl sc_f_law_same rfl (fun _ _ _ _ _ _ us hl => match us, hl with | [_, _], _ => rfl)
  | n + 1 => by
    have ih := ok_f_law_same c n
    exact mkOk c 17 17 rfl rfl (fun _ _ _ _ _ _ us hl => match us, hl with | [_, _], _ => rfl) fun F => fn_D F sc_f_law_same rfl (by decide) (by decide) (kt := []) (os' := [false, false, false, false]) fun cdv A outer s H E hr => (dss_cons (os1 := [false, false, false, false])
 (ds_if (dt_val (de_isi (T := "dict") (fun h => pe_callB call_isiD (by rfl) (c.free 36 rfl) (by first | exact boot_isinstance | exact PySem.boot_isinstance | exact PyProof.Rows.boot_isinstance | exact L2.boot_isinstance) h) (dv_var (pv 1)) (pe_bltn (by rfl) (c.free 34 rfl) (by first | exact boot_dict | exact PySem.boot_dict | exact PyProof.Rows.boot_dict | exact L2.boot_dict) rfl)))
 (dss_cons (os1 := [false, false, false, false])
 (ds_if (PW.pt (dw_or (dt_not (dt_val (de_isi (T := "dict") (fun h => pe_callB call_isiD (by rfl) (c.free 36 rfl) (by first | exact boot_isinstance | exact PySem.boot_isinstance | exact PyProof.Rows.boot_isinstance | exact L2.boot_isinstance) h) (dv_var (pv 0)) (pe_bltn (by rfl) (c.free 34 rfl) (by first | exact boot_dict | exact PySem.boot_dict | exact PyProof.Rows.boot_dict | exact L2.boot_dict) rfl)))) (pw_or1 (dt_cmp (op_neD (hr_cls2 hr)) neD_ok neD_nx (nomark _) (de_call1 (fun h => pe_callB call_len2 (by rfl) (c.free 37 rfl) (by first | exact boot_len | exact PySem.boot_len | exact PyProof.Rows.boot_len | exact L2.boot_len) h) lenD_ok lenD_nx (dv_var (pv 0))) (dv_of (de_call1 (fun h => pe_callB call_len2 (by rfl) (c.free 37 rfl) (by first | exact boot_len | exact PySem.boot_len | exact PyProof.Rows.boot_len | exact L2.boot_len) h) lenD_ok lenD_nx (dv_var (pv 1))))))))
 (dss_cons (os1 := [false, false, false, false]) (ds_ret rfl de_bl) dss_nil)
 dss_nil)
 (dss_cons (os1 := [false, false, false, false]) (ds_ret rfl (de_call1 (fun h => pe_callB (cr_all rfl) (by rfl) (c.free 32 rfl) (by first | exact boot_all | exact PySem.boot_all | exact PyProof.Rows.boot_all | exact L2.boot_all) h) allD_ok allD_nx (dv_of (de_of (do_lcA (own := [("key", 2)]) rfl sc_f_law_same.nd (pv 1) rfl (blkOk_by (N := N_f_law_same) (sc := defScope (top 22)) (own := [("key", 2)]) (by decide +kernel)) (gt := (gName 2)) (fun _ _ _ _ _ => (pg_name (i := 2) sc_f_law_same.nd rfl (by first | exact Or.inl rfl | exact Or.inr rfl))) (fun _ _ _ _ _ => dts_nil) (fun _ _ _ _ _ => (de_and (dv_cmp (op_in3 (hr_cls hr)) inD_ok inD_nx (by with_unfolding_all rfl) (de_var (pv 2) rfl) (dv_var (pv 0))) (pe_one (dv_asb (dcall (ks := [none, none]) ih rfl hr (Nat.le_refl _) (by rfl) (dc_val (de_ix (hr_cls hr) (by intro _ _; rfl) (de_var (pv 0) rfl) (dv_var (pv 2))) (dc_val (de_ix (hr_cls hr) (by intro _ _; rfl) (de_var (pv 1) rfl) (dv_var (pv 2))) dc_nil)) rfl (by decide)))))) (raw_name (by decide) rfl) (by decide)))))) dss_nil))
 dss_nil)
 (dss_cons (os1 := [false, false, false, false])
 (ds_if (PW.pt (dw_or (dt_val (de_isi (T := "list") (fun h => pe_callB call_isiD (by rfl) (c.free 36 rfl) (by first | exact boot_isinstance | exact PySem.boot_isinstance | exact PyProof.Rows.boot_isinstance | exact L2.boot_isinstance) h) (dv_var (pv 1)) (pe_bltn (by rfl) (c.free 38 rfl) (by first | exact boot_list | exact PySem.boot_list | exact PyProof.Rows.boot_list | exact L2.boot_list) rfl))) (pw_or1 (dt_val (de_isi (T := "tuple") (fun h => pe_callB call_isiD (by rfl) (c.free 36 rfl) (by first | exact boot_isinstance | exact PySem.boot_isinstance | exact PyProof.Rows.boot_isinstance | exact L2.boot_isinstance) h) (dv_var (pv 1)) (pe_bltn (by rfl) (c.free 42 rfl) (by first | exact boot_tuple | exact PySem.boot_tuple | exact PyProof.Rows.boot_tuple | exact L2.boot_tuple) rfl))))))
 (dss_cons (os1 := [false, false, false, false])
 (ds_if (PW.pt (dw_or (dt_cmp (op_neD (hr_cls2 hr)) neD_ok neD_nx (nomark _) (de_isi (T := "list") (fun h => pe_callB call_isiD (by rfl) (c.free 36 rfl) (by first | exact boot_isinstance | exact PySem.boot_isinstance | exact PyProof.Rows.boot_isinstance | exact L2.boot_isinstance) h) (dv_var (pv 1)) (pe_bltn (by rfl) (c.free 38 rfl) (by first | exact boot_list | exact PySem.boot_list | exact PyProof.Rows.boot_list | exact L2.boot_list) rfl)) (dv_of (de_isi (T := "list") (fun h => pe_callB call_isiD (by rfl) (c.free 36 rfl) (by first | exact boot_isinstance | exact PySem.boot_isinstance | exact PyProof.Rows.boot_isinstance | exact L2.boot_isinstance) h) (dv_var (pv 0)) (pe_bltn (by rfl) (c.free 38 rfl) (by first | exact boot_list | exact PySem.boot_list | exact PyProof.Rows.boot_list | exact L2.boot_list) rfl)))) (pw_or1 (dt_cmp (op_neD (hr_cls2 hr)) neD_ok neD_nx (nomark _) (de_isi (T := "tuple") (fun h => pe_callB call_isiD (by rfl) (c.free 36 rfl) (by first | exact boot_isinstance | exact PySem.boot_isinstance | exact PyProof.Rows.boot_isinstance | exact L2.boot_isinstance) h) (dv_var (pv 1)) (pe_bltn (by rfl) (c.free 42 rfl) (by first | exact boot_tuple | exact PySem.boot_tuple | exact PyProof.Rows.boot_tuple | exact L2.boot_tuple) rfl)) (dv_of (de_isi (T := "tuple") (fun h => pe_callB call_isiD (by rfl) (c.free 36 rfl) (by first | exact boot_isinstance | exact PySem.boot_isinstance | exact PyProof.Rows.boot_isinstance | exact L2.boot_isinstance) h) (dv_var (pv 0)) (pe_bltn (by rfl) (c.free 42 rfl) (by first | exact boot_tuple | exact PySem.boot_tuple | exact PyProof.Rows.boot_tuple | exact L2.boot_tuple) rfl)))))))
 (dss_cons (os1 := [false, false, false, false]) (ds_ret rfl de_bl) dss_nil)
 dss_nil)
 (dss_cons (os1 := [false, false, false, false]) (ds_ret rfl (de_and (dv_cmp (op_eqD (hr_cls2 hr)) eqD_ok eqD_nx (nomark _) (de_call1 (fun h => pe_callB call_len2 (by rfl) (c.free 37 rfl) (by first | exact boot_len | exact PySem.boot_len | exact PyProof.Rows.boot_len | exact L2.boot_len) h) lenD_ok lenD_nx (dv_var (pv 0))) (dv_of (de_call1 (fun h => pe_callB call_len2 (by rfl) (c.free 37 rfl) (by first | exact boot_len | exact PySem.boot_len | exact PyProof.Rows.boot_len | exact L2.boot_len) h) lenD_ok lenD_nx (dv_var (pv 1))))) (pe_one (dv_asb (de_call1 (fun h => pe_callB (cr_all rfl) (by rfl) (c.free 32 rfl) (by first | exact boot_all | exact PySem.boot_all | exact PyProof.Rows.boot_all | exact L2.boot_all) h) allD_ok allD_nx (dv_of (de_of (do_lc (own := [("k", 3)]) rfl sc_f_law_same.nd (di_range1 (fun h => pi_range1 (by rfl) (c.free 39 rfl) h) (dv_of (de_call1 (fun h => pe_callB call_len2 (by rfl) (c.free 37 rfl) (by first | exact boot_len | exact PySem.boot_len | exact PyProof.Rows.boot_len | exact L2.boot_len) h) lenD_ok lenD_nx (dv_var (pv 1))))) (blkOk_by (N := N_f_law_same) (sc := defScope (top 22)) (own := [("k", 3)]) (by decide +kernel)) (gt := (gName 3)) (fun _ _ _ _ _ => (pg_name (i := 3) sc_f_law_same.nd rfl (by first | exact Or.inl rfl | exact Or.inr rfl))) (fun _ _ _ _ _ => dts_nil) (fun _ _ _ _ _ => (dcall (ks := [none, none]) ih rfl hr (Nat.le_refl _) (by rfl) (dc_val (de_ix (hr_cls hr) (by intro _ _; rfl) (de_var (pv 0) rfl) (dv_var (pv 3))) (dc_val (de_ix (hr_cls hr) (by intro _ _; rfl) (de_var (pv 1) rfl) (dv_var (pv 3))) dc_nil)) rfl (by decide))) (raw_name (by decide) rfl) (by decide))))))))) dss_nil))
 dss_nil)
 (dss_cons (os1 := [false, false, false, false])
 (ds_if (dt_val (de_isi (T := "str") (fun h => pe_callB call_isiD (by rfl) (c.free 36 rfl) (by first | exact boot_isinstance | exact PySem.boot_isinstance | exact PyProof.Rows.boot_isinstance | exact L2.boot_isinstance) h) (dv_var (pv 1)) (pe_bltn (by rfl) (c.free 41 rfl) (by first | exact boot_str | exact PySem.boot_str | exact PyProof.Rows.boot_str | exact L2.boot_str) rfl)))
 (dss_cons (os1 := [false, false, false, false]) (ds_ret rfl (de_and (dv_asb (de_isi (T := "str") (fun h => pe_callB call_isiD (by rfl) (c.free 36 rfl) (by first | exact boot_isinstance | exact PySem.boot_isinstance | exact PyProof.Rows.boot_isinstance | exact L2.boot_isinstance) h) (dv_var (pv 0)) (pe_bltn (by rfl) (c.free 41 rfl) (by first | exact boot_str | exact PySem.boot_str | exact PyProof.Rows.boot_str | exact L2.boot_str) rfl))) (pe_one (dv_cmp (op_eqD (hr_cls2 hr)) eqD_ok eqD_nx (nomark _) (de_var (pv 0) rfl) (dv_var (pv 1)))))) dss_nil)
 dss_nil)
 (dss_cons (os1 := [false, false, false, false])
 (ds_if (PW.pt (dw_or (dt_cmp op_isC isC_ok isC_nx (nomark _) (de_var (pv 1) rfl) (dv_of de_non)) (dw_or (dt_cmp op_isC isC_ok isC_nx (nomark _) (de_var (pv 1) rfl) (dv_of de_bl)) (pw_or1 (dt_cmp op_isC isC_ok isC_nx (nomark _) (de_var (pv 1) rfl) (dv_of de_bl))))))
 (dss_cons (os1 := [false, false, false, false]) (ds_ret rfl (de_or (de_and (dv_cmp op_isC isC_ok isC_nx (nomark _) (de_var (pv 1) rfl) (dv_of de_non)) (pe_one (dv_cmp op_isC isC_ok isC_nx (nomark _) (de_var (pv 0) rfl) (dv_of de_non)))) (de_or (de_and (dv_cmp op_isC isC_ok isC_nx (nomark _) (de_var (pv 1) rfl) (dv_of de_bl)) (pe_one (dv_cmp op_isC isC_ok isC_nx (nomark _) (de_var (pv 0) rfl) (dv_of de_bl)))) (pe_one (de_and (dv_cmp op_isC isC_ok isC_nx (nomark _) (de_var (pv 1) rfl) (dv_of de_bl)) (pe_one (dv_cmp op_isC isC_ok isC_nx (nomark _) (de_var (pv 0) rfl) (dv_of de_bl)))))))) dss_nil)
 dss_nil)
 (dss_cons (os1 := [false, false, false, false]) (ds_ret rfl (de_and (dv_asb (de_isi (T := "int") (fun h => pe_callB call_isiD (by rfl) (c.free 36 rfl) (by first | exact boot_isinstance | exact PySem.boot_isinstance | exact PyProof.Rows.boot_isinstance | exact L2.boot_isinstance) h) (dv_var (pv 0)) (pe_bltn (by rfl) (c.free 35 rfl) (by first | exact boot_int | exact PySem.boot_int | exact PyProof.Rows.boot_int | exact L2.boot_int) rfl))) (de_and (de_not (dv_asb (de_isi (T := "bool") (fun h => pe_callB call_isiD (by rfl) (c.free 36 rfl) (by first | exact boot_isinstance | exact PySem.boot_isinstance | exact PyProof.Rows.boot_isinstance | exact L2.boot_isinstance) h) (dv_var (pv 0)) (pe_bltn (by rfl) (c.free 33 rfl) (by first | exact boot_bool | exact PySem.boot_bool | exact PyProof.Rows.boot_bool | exact L2.boot_bool) rfl)))) (pe_one (dv_cmp (op_eqD (hr_cls2 hr)) eqD_ok eqD_nx (nomark _) (de_var (pv 0) rfl) (dv_var (pv 1))))))) dss_nil)))))
abbrev N_f_law_gcd : List Str := ["one", "other", "k"]
theorem sc_f_law_gcd : FnScope N_f_law_gcd ["one", "other"] (defScope (top 23)) := ⟨rfl, rfl, rfl, by decide +kernel, rfl, by decide +kernel, by decide +kernel⟩
def l_f_law_gcd_1 : SM := (sSeq (sIf (e2 eqD (eVar 1) (eRet (.int 0)))
 (sSeq sBrk sNil)
 sNil)
 (sSeq (sPar 0 1 (eCons (eVar 1) (eCons (e2 modD (e1 intD (eVar 0)) (eVar 1)) eNil)))
 sNil))
def b_f_law_gcd : SM := (sSeq (sFor (e1 rng1D (eRet (.int 20000))) (gSet 2) l_f_law_gcd_1)
 (sSeq (sRet (eVar 0)) sNil))
def m_f_law_gcd : List D → Res (D × List D) := fnM 3 2 false b_f_law_gcd
theorem ok_f_law_gcd (c : Base fa fn ex K mg) : Ok P w K mg base "_law_gcd" 1 ["one", "other"] [false, false] false m_f_law_gcd := mkOk c 18 18 rfl rfl (fun _ _ _ _ _ _ us hl => match us, hl with | [_, _], _ => rfl) fun F =>
  fn_D F sc_f_law_gcd rfl (by decide) (by decide) (kt := []) (os' := [false, false, false]) fun cdv A outer s H E hr => (dss_cons (os1 := [false, false, false])
 (ds_for (os1 := [false, false, false]) PassesOwn.never rfl (di_range1 (fun h => pi_range1 (by rfl) (c.free 39 rfl) h) (dv_of de_int)) (dg_name (pg_name (i := 2) sc_f_law_gcd.nd rfl (by first | exact Or.inl rfl | exact Or.inr rfl)) (by decide) (by decide))
 (dss_cons (os1 := [false, false, false])
 (ds_if (dt_cmp (op_eqD (hr_cls2 hr)) eqD_ok eqD_nx (nomark _) (de_var (pv 1) rfl) (dv_of de_int))
 (dss_cons (os1 := [false, false, false]) (ds_brk rfl) dss_nil)
 dss_nil)
 (dss_cons (os1 := [false, false, false])
 (ds_par (i := 0) (j := 1) (fun h => ps_par rfl sc_f_law_gcd.nd rfl rfl (by decide) rfl rfl h (by rfl)) (da_cons (de_var (pv 1) rfl) (da_cons (de_op op_modN modD_ok modD_nx (de_call1 (fun h => pe_callTy call_int1 (by rfl) (c.free 35 rfl) (by first | exact boot_int | exact PySem.boot_int | exact PyProof.Rows.boot_int | exact L2.boot_int) h) intD_ok intD_nx (dv_var (pv 0))) (dv_var (pv 1))) da_nil)) (by decide) (by decide) (by decide) (by decide))
 dss_nil)))
 (dss_cons (os1 := [false, false, false]) (ds_ret rfl (de_var (pv 0) rfl)) dss_nil))
abbrev N_f_law_ratio : List Str := ["p", "q", "common"]
theorem sc_f_law_ratio : FnScope N_f_law_ratio ["p", "q"] (defScope (top 24)) := ⟨rfl, rfl, rfl, by decide +kernel, rfl, by decide +kernel, by decide +kernel⟩
def b_f_law_ratio : SM := (sSeq (sIf (e2 (cmpD fun i j => decide (i < j)) (eVar 1) (eRet (.int 0)))
 (sSeq (sPar 0 1 (eCons (e1 negD (eVar 0)) (eCons (e1 negD (eVar 1)) eNil)))
 sNil)
 sNil)
 (sSeq (sSet 2 (eCall [none, none] m_f_law_gcd (eCons (e1 absD (eVar 0)) (eCons (eVar 1) eNil))))
 (sSeq (sRet (eL gTup (eCons (e2 fdivD (eVar 0) (eVar 2)) (eCons (e2 fdivD (eVar 1) (eVar 2)) eNil)))) sNil)))
def m_f_law_ratio : List D → Res (D × List D) := fnM 3 2 false b_f_law_ratio
theorem ok_f_law_ratio (c : Base fa fn ex K mg) : Ok P w K mg base "_law_ratio" 2 ["p", "q"] [false, false] false m_f_law_ratio := mkOk c 19 19 rfl rfl (fun _ _ _ _ _ _ us hl => match us, hl with | [_, _], _ => rfl) fun F =>
  fn_D F sc_f_law_ratio rfl (by decide) (by decide) (kt := []) (os' := [false, false, false]) fun cdv A outer s H E hr => (dss_cons (os1 := [false, false, false])
 (ds_if (dt_cmp op_lt (cmpD_ok fun i j => decide (i < j)) (cmpD_nx _) (nomark _) (de_var (pv 1) rfl) (dv_of de_int))
 (dss_cons (os1 := [false, false, false])
 (ds_par (i := 0) (j := 1) (fun h => ps_par rfl sc_f_law_ratio.nd rfl rfl (by decide) rfl rfl h (by rfl)) (da_cons (de_un un_neg negD_ok negD_nx (dv_var (pv 0))) (da_cons (de_un un_neg negD_ok negD_nx (dv_var (pv 1))) da_nil)) (by decide) (by decide) (by decide) (by decide))
 dss_nil)
 dss_nil)
 (dss_cons (os1 := [false, false, false])
 (ds_set (tg := .Constant .none 0 ⟨0, 0, 0, 0⟩) (fun h => ps_set (i := 2) sc_f_law_ratio.nd rfl (by first | exact Or.inl rfl | exact Or.inr rfl) h) (by decide) (by decide) (dcall (ks := [none, none]) (ok_f_law_gcd c) rfl hr (by decide) (by rfl) (dc_val (de_call1 (fun h => pe_callB call_abs (by rfl) (c.free 31 rfl) (by first | exact boot_abs | exact PySem.boot_abs | exact PyProof.Rows.boot_abs | exact L2.boot_abs) h) absD_ok absD_nx (dv_var (pv 0))) (dc_val (de_var (pv 1) rfl) dc_nil)) rfl (by decide)))
 (dss_cons (os1 := [false, false, false]) (ds_ret rfl (de_tup (da_cons (de_op op_fdivA fdivD_ok fdivD_nx (de_var (pv 0) rfl) (dv_var (pv 2))) (da_cons (de_op op_fdivA fdivD_ok fdivD_nx (de_var (pv 1) rfl) (dv_var (pv 2))) da_nil)))) dss_nil)))
abbrev N_f_law_add : List Str := ["one", "other"]
theorem sc_f_law_add : FnScope N_f_law_add ["one", "other"] (defScope (top 25)) := ⟨rfl, rfl, rfl, by decide +kernel, rfl, by decide +kernel, by decide +kernel⟩
def b_f_law_add : SM := (sSeq (sRet (eCall [none, none] m_f_law_ratio (eCons (e2 addD (e2 mulD (e2 ixD (eVar 0) (eRet (.int 0))) (e2 ixD (eVar 1) (eRet (.int 1)))) (e2 mulD (e2 ixD (eVar 1) (eRet (.int 0))) (e2 ixD (eVar 0) (eRet (.int 1))))) (eCons (e2 mulD (e2 ixD (eVar 0) (eRet (.int 1))) (e2 ixD (eVar 1) (eRet (.int 1)))) eNil)))) sNil)
def m_f_law_add : List D → Res (D × List D) := fnM 2 2 false b_f_law_add
theorem ok_f_law_add (c : Base fa fn ex K mg) : Ok P w K mg base "_law_add" 3 ["one", "other"] [false, false] false m_f_law_add := mkOk c 20 20 rfl rfl (fun _ _ _ _ _ _ us hl => match us, hl with | [_, _], _ => rfl) fun F =>
  fn_D F sc_f_law_add rfl (by decide) (by decide) (kt := []) (os' := [false, false]) fun cdv A outer s H E hr => (dss_cons (os1 := [false, false]) (ds_ret rfl (dcall (ks := [none, none]) (ok_f_law_ratio c) rfl hr (by decide) (by rfl) (dc_val (de_op op_add4 addD_ok addD_nx (de_op op_mul2 mulD_ok mulD_nx (de_ix (hr_cls hr) (by intro _ _; rfl) (de_var (pv 0) rfl) (dv_of de_int)) (dv_of (de_ix (hr_cls hr) (by intro _ _; rfl) (de_var (pv 1) rfl) (dv_of de_int)))) (dv_of (de_op op_mul2 mulD_ok mulD_nx (de_ix (hr_cls hr) (by intro _ _; rfl) (de_var (pv 1) rfl) (dv_of de_int)) (dv_of (de_ix (hr_cls hr) (by intro _ _; rfl) (de_var (pv 0) rfl) (dv_of de_int)))))) (dc_val (de_op op_mul2 mulD_ok mulD_nx (de_ix (hr_cls hr) (by intro _ _; rfl) (de_var (pv 0) rfl) (dv_of de_int)) (dv_of (de_ix (hr_cls hr) (by intro _ _; rfl) (de_var (pv 1) rfl) (dv_of de_int)))) dc_nil)) rfl (by decide))) dss_nil)
abbrev N_f_law_mul : List Str := ["one", "other"]
theorem sc_f_law_mul : FnScope N_f_law_mul ["one", "other"] (defScope (top 26)) := ⟨rfl, rfl, rfl, by decide +kernel, rfl, by decide +kernel, by decide +kernel⟩
def b_f_law_mul : SM := (sSeq (sRet (eCall [none, none] m_f_law_ratio (eCons (e2 mulD (e2 ixD (eVar 0) (eRet (.int 0))) (e2 ixD (eVar 1) (eRet (.int 0)))) (eCons (e2 mulD (e2 ixD (eVar 0) (eRet (.int 1))) (e2 ixD (eVar 1) (eRet (.int 1)))) eNil)))) sNil)
def m_f_law_mul : List D → Res (D × List D) := fnM 2 2 false b_f_law_mul
theorem ok_f_law_mul (c : Base fa fn ex K mg) : Ok P w K mg base "_law_mul" 3 ["one", "other"] [false, false] false m_f_law_mul := mkOk c 21 21 rfl rfl (fun _ _ _ _ _ _ us hl => match us, hl with | [_, _], _ => rfl) fun F =>
  fn_D F sc_f_law_mul rfl (by decide) (by decide) (kt := []) (os' := [false, false]) fun cdv A outer s H E hr => (dss_cons (os1 := [false, false]) (ds_ret rfl (dcall (ks := [none, none]) (ok_f_law_ratio c) rfl hr (by decide) (by rfl) (dc_val (de_op op_mul2 mulD_ok mulD_nx (de_ix (hr_cls hr) (by intro _ _; rfl) (de_var (pv 0) rfl) (dv_of de_int)) (dv_of (de_ix (hr_cls hr) (by intro _ _; rfl) (de_var (pv 1) rfl) (dv_of de_int)))) (dc_val (de_op op_mul2 mulD_ok mulD_nx (de_ix (hr_cls hr) (by intro _ _; rfl) (de_var (pv 0) rfl) (dv_of de_int)) (dv_of (de_ix (hr_cls hr) (by intro _ _; rfl) (de_var (pv 1) rfl) (dv_of de_int)))) dc_nil)) rfl (by decide))) dss_nil)
abbrev N_f_law_less : List Str := ["one", "other"]
theorem sc_f_law_less : FnScope N_f_law_less ["one", "other"] (defScope (top 27)) := ⟨rfl, rfl, rfl, by decide +kernel, rfl, by decide +kernel, by decide +kernel⟩
def b_f_law_less : SM := (sSeq (sRet (eBl (e2 (cmpD fun i j => decide (i < j)) (e2 mulD (e2 ixD (eVar 0) (eRet (.int 0))) (e2 ixD (eVar 1) (eRet (.int 1)))) (e2 mulD (e2 ixD (eVar 1) (eRet (.int 0))) (e2 ixD (eVar 0) (eRet (.int 1))))))) sNil)
def m_f_law_less : List D → Res (D × List D) := fnM 2 2 false b_f_law_less
theorem ok_f_law_less (c : Base fa fn ex K mg) : Ok P w K mg base "_law_less" 1 ["one", "other"] [false, false] false m_f_law_less := mkOk c 22 22 rfl rfl (fun _ _ _ _ _ _ us hl => match us, hl with | [_, _], _ => rfl) fun F =>
  fn_D F sc_f_law_less rfl (by decide) (by decide) (kt := []) (os' := [false, false]) fun cdv A outer s H E hr => (dss_cons (os1 := [false, false]) (ds_ret rfl (dv_cmp op_lt (cmpD_ok fun i j => decide (i < j)) (cmpD_nx _) (nomark _) (de_op op_mul2 mulD_ok mulD_nx (de_ix (hr_cls hr) (by intro _ _; rfl) (de_var (pv 0) rfl) (dv_of de_int)) (dv_of (de_ix (hr_cls hr) (by intro _ _; rfl) (de_var (pv 1) rfl) (dv_of de_int)))) (dv_of (de_op op_mul2 mulD_ok mulD_nx (de_ix (hr_cls hr) (by intro _ _; rfl) (de_var (pv 1) rfl) (dv_of de_int)) (dv_of (de_ix (hr_cls hr) (by intro _ _; rfl) (de_var (pv 0) rfl) (dv_of de_int))))))) dss_nil)
abbrev N_f_law_low : List Str := ["one", "other"]
theorem sc_f_law_low : FnScope N_f_law_low ["one", "other"] (defScope (top 28)) := ⟨rfl, rfl, rfl, by decide +kernel, rfl, by decide +kernel, by decide +kernel⟩
def b_f_law_low : SM := (sSeq (sRet (eIf (e1 gBl (eCall [none, none] m_f_law_less (eCons (eVar 1) (eCons (eVar 0) eNil)))) (eVar 1) (eVar 0))) sNil)
def m_f_law_low : List D → Res (D × List D) := fnM 2 2 false b_f_law_low
theorem ok_f_law_low (c : Base fa fn ex K mg) : Ok P w K mg base "_law_low" 2 ["one", "other"] [false, false] false m_f_law_low := mkOk c 23 23 rfl rfl (fun _ _ _ _ _ _ us hl => match us, hl with | [_, _], _ => rfl) fun F =>
  fn_D F sc_f_law_low rfl (by decide) (by decide) (kt := []) (os' := [false, false]) fun cdv A outer s H E hr => (dss_cons (os1 := [false, false]) (ds_ret rfl (de_if (dt_val (dcall (ks := [none, none]) (ok_f_law_less c) rfl hr (by decide) (by rfl) (dc_val (de_var (pv 1) rfl) (dc_val (de_var (pv 0) rfl) dc_nil)) rfl (by decide))) (de_var (pv 1) rfl) (de_var (pv 0) rfl))) dss_nil)
abbrev N_f_law_over : List Str := ["one", "other"]
theorem sc_f_law_over : FnScope N_f_law_over ["one", "other"] (defScope (top 29)) := ⟨rfl, rfl, rfl, by decide +kernel, rfl, by decide +kernel, by decide +kernel⟩
def b_f_law_over : SM := (sSeq (sRet (eCall [none, none] m_f_law_ratio (eCons (e2 mulD (e2 ixD (eVar 0) (eRet (.int 0))) (e2 ixD (eVar 1) (eRet (.int 1)))) (eCons (e2 mulD (e2 ixD (eVar 0) (eRet (.int 1))) (e2 ixD (eVar 1) (eRet (.int 0)))) eNil)))) sNil)
def m_f_law_over : List D → Res (D × List D) := fnM 2 2 false b_f_law_over
theorem ok_f_law_over (c : Base fa fn ex K mg) : Ok P w K mg base "_law_over" 3 ["one", "other"] [false, false] false m_f_law_over := mkOk c 24 24 rfl rfl (fun _ _ _ _ _ _ us hl => match us, hl with | [_, _], _ => rfl) fun F =>
  fn_D F sc_f_law_over rfl (by decide) (by decide) (kt := []) (os' := [false, false]) fun cdv A outer s H E hr => (dss_cons (os1 := [false, false]) (ds_ret rfl (dcall (ks := [none, none]) (ok_f_law_ratio c) rfl hr (by decide) (by rfl) (dc_val (de_op op_mul2 mulD_ok mulD_nx (de_ix (hr_cls hr) (by intro _ _; rfl) (de_var (pv 0) rfl) (dv_of de_int)) (dv_of (de_ix (hr_cls hr) (by intro _ _; rfl) (de_var (pv 1) rfl) (dv_of de_int)))) (dc_val (de_op op_mul2 mulD_ok mulD_nx (de_ix (hr_cls hr) (by intro _ _; rfl) (de_var (pv 0) rfl) (dv_of de_int)) (dv_of (de_ix (hr_cls hr) (by intro _ _; rfl) (de_var (pv 1) rfl) (dv_of de_int)))) dc_nil)) rfl (by decide))) dss_nil)
abbrev N_f_law_pays : List Str := ["rent", "price", "k", "m"]
theorem sc_f_law_pays : FnScope N_f_law_pays ["rent", "price", "k", "m"] (defScope (top 30)) := ⟨rfl, rfl, rfl, by decide +kernel, rfl, by decide +kernel, by decide +kernel⟩
def b_f_law_pays : SM := (sSeq (sIf (e2 (cmpD fun i j => decide (i < j)) (eVar 3) (eVar 2))
 (sSeq (sRet (eCall [none, none] m_f_law_mul (eCons (eVar 0) (eCons (eL gTup (eCons (eVar 3) (eCons (eRet (.int 1)) eNil))) eNil)))) sNil)
 sNil)
 (sSeq (sRet (eCall [none, none] m_f_law_add (eCons (eCall [none, none] m_f_law_mul (eCons (eVar 0) (eCons (eL gTup (eCons (e2 subD (eVar 2) (eRet (.int 1))) (eCons (eRet (.int 1)) eNil))) eNil))) (eCons (eVar 1) eNil)))) sNil))
def m_f_law_pays : List D → Res (D × List D) := fnM 4 4 false b_f_law_pays
theorem ok_f_law_pays (c : Base fa fn ex K mg) : Ok P w K mg base "_law_pays" 4 ["rent", "price", "k", "m"] [false, false, false, false] false m_f_law_pays := mkOk c 25 25 rfl rfl (fun _ _ _ _ _ _ us hl => match us, hl with | [_, _, _, _], _ => rfl) fun F =>
  fn_D F sc_f_law_pays rfl (by decide) (by decide) (kt := []) (os' := [false, false, false, false]) fun cdv A outer s H E hr => (dss_cons (os1 := [false, false, false, false])
 (ds_if (dt_cmp op_lt (cmpD_ok fun i j => decide (i < j)) (cmpD_nx _) (nomark _) (de_var (pv 3) rfl) (dv_var (pv 2)))
 (dss_cons (os1 := [false, false, false, false]) (ds_ret rfl (dcall (ks := [none, none]) (ok_f_law_mul c) rfl hr (by decide) (by rfl) (dc_val (de_var (pv 0) rfl) (dc_val (de_tup (da_cons (de_var (pv 3) rfl) (da_cons de_int da_nil))) dc_nil)) rfl (by decide))) dss_nil)
 dss_nil)
 (dss_cons (os1 := [false, false, false, false]) (ds_ret rfl (dcall (ks := [none, none]) (ok_f_law_add c) rfl hr (by decide) (by rfl) (dc_val (dcall (ks := [none, none]) (ok_f_law_mul c) rfl hr (by decide) (by rfl) (dc_val (de_var (pv 0) rfl) (dc_val (de_tup (da_cons (de_op op_sub subD_ok subD_nx (de_var (pv 2) rfl) (dv_of de_int)) (da_cons de_int da_nil))) dc_nil)) rfl (by decide)) (dc_val (de_var (pv 1) rfl) dc_nil)) rfl (by decide))) dss_nil))
abbrev N_f_law_quotient : List Str := ["rent", "price", "k", "m"]
theorem sc_f_law_quotient : FnScope N_f_law_quotient ["rent", "price", "k", "m"] (defScope (top 31)) := ⟨rfl, rfl, rfl, by decide +kernel, rfl, by decide +kernel, by decide +kernel⟩
def b_f_law_quotient : SM := (sSeq (sRet (eCall [none, none] m_f_law_over (eCons (eCall [none, none, none, none] m_f_law_pays (eCons (eVar 0) (eCons (eVar 1) (eCons (eVar 2) (eCons (eVar 3) eNil))))) (eCons (eCall [none, none] m_f_law_low (eCons (eCall [none, none] m_f_law_mul (eCons (eVar 0) (eCons (eL gTup (eCons (eVar 3) (eCons (eRet (.int 1)) eNil))) eNil))) (eCons (eVar 1) eNil))) eNil)))) sNil)
def m_f_law_quotient : List D → Res (D × List D) := fnM 4 4 false b_f_law_quotient
theorem ok_f_law_quotient (c : Base fa fn ex K mg) : Ok P w K mg base "_law_quotient" 5 ["rent", "price", "k", "m"] [false, false, false, false] false m_f_law_quotient := mkOk c 26 26 rfl rfl (fun _ _ _ _ _ _ us hl => match us, hl with | [_, _, _, _], _ => rfl) fun F =>
  fn_D F sc_f_law_quotient rfl (by decide) (by decide) (kt := []) (os' := [false, false, false, false]) fun cdv A outer s H E hr => (dss_cons (os1 := [false, false, false, false]) (ds_ret rfl (dcall (ks := [none, none]) (ok_f_law_over c) rfl hr (by decide) (by rfl) (dc_val (dcall (ks := [none, none, none, none]) (ok_f_law_pays c) rfl hr (by decide) (by rfl) (dc_val (de_var (pv 0) rfl) (dc_val (de_var (pv 1) rfl) (dc_val (de_var (pv 2) rfl) (dc_val (de_var (pv 3) rfl) dc_nil)))) rfl (by decide)) (dc_val (dcall (ks := [none, none]) (ok_f_law_low c) rfl hr (by decide) (by rfl) (dc_val (dcall (ks := [none, none]) (ok_f_law_mul c) rfl hr (by decide) (by rfl) (dc_val (de_var (pv 0) rfl) (dc_val (de_tup (da_cons (de_var (pv 3) rfl) (da_cons de_int da_nil))) dc_nil)) rfl (by decide)) (dc_val (de_var (pv 1) rfl) dc_nil)) rfl (by decide)) dc_nil)) rfl (by decide))) dss_nil)
abbrev N_f_law_worst : List Str := ["rent", "price", "days", "k", "found", "m", "number"]
theorem sc_f_law_worst : FnScope N_f_law_worst ["rent", "price", "days", "k"] (defScope (top 32)) := ⟨rfl, rfl, rfl, by decide +kernel, rfl, by decide +kernel, by decide +kernel⟩
def l_f_law_worst_1 : SM := (sSeq (sSet 6 (eCall [none, none, none, none] m_f_law_quotient (eCons (eVar 0) (eCons (eVar 1) (eCons (eVar 3) (eCons (eVar 5) eNil))))))
 (sSeq (sIf (eOr (e2 isC (eVar 4) (eRet .non)) (e1 gBl (eCall [none, none] m_f_law_less (eCons (e2 ixD (eVar 4) (eRet (.int 0))) (eCons (eVar 6) eNil)))))
 (sSeq (sSet 4 (eL gTup (eCons (eVar 6) (eCons (eVar 5) eNil))))
 sNil)
 sNil)
 sNil))
def b_f_law_worst : SM := (sSeq (sSet 4 (eRet .non))
 (sSeq (sFor (e2 rng2D (eRet (.int 1)) (e2 addD (eVar 2) (eRet (.int 1)))) (gSet 5) l_f_law_worst_1)
 (sSeq (sRet (eVar 4)) sNil)))
def m_f_law_worst : List D → Res (D × List D) := fnM 7 4 false b_f_law_worst
theorem ok_f_law_worst (c : Base fa fn ex K mg) : Ok P w K mg base "_law_worst" 6 ["rent", "price", "days", "k"] [false, false, false, false] false m_f_law_worst := mkOk c 27 27 rfl rfl (fun _ _ _ _ _ _ us hl => match us, hl with | [_, _, _, _], _ => rfl) fun F =>
  fn_D F sc_f_law_worst rfl (by decide) (by decide) (kt := []) (os' := [false, false, false, false, false, false, false]) fun cdv A outer s H E hr => (dss_cons (os1 := [false, false, false, false, false, false, false])
 (ds_set (tg := .Constant .none 0 ⟨0, 0, 0, 0⟩) (fun h => ps_set (i := 4) sc_f_law_worst.nd rfl (by first | exact Or.inl rfl | exact Or.inr rfl) h) (by decide) (by decide) de_non)
 (dss_cons (os1 := [false, false, false, false, false, false, false])
 (ds_for (os1 := [false, false, false, false, false, false, false]) PassesOwn.never rfl (di_range2 (fun h => pi_range2 (by rfl) (c.free 39 rfl) h) de_int (dv_of (de_op op_add4 addD_ok addD_nx (de_var (pv 2) rfl) (dv_of de_int)))) (dg_name (pg_name (i := 5) sc_f_law_worst.nd rfl (by first | exact Or.inl rfl | exact Or.inr rfl)) (by decide) (by decide))
 (dss_cons (os1 := [false, false, false, false, false, false, false])
 (ds_set (tg := .Constant .none 0 ⟨0, 0, 0, 0⟩) (fun h => ps_set (i := 6) sc_f_law_worst.nd rfl (by first | exact Or.inl rfl | exact Or.inr rfl) h) (by decide) (by decide) (dcall (ks := [none, none, none, none]) (ok_f_law_quotient c) rfl hr (by decide) (by rfl) (dc_val (de_var (pv 0) rfl) (dc_val (de_var (pv 1) rfl) (dc_val (de_var (pv 3) rfl) (dc_val (de_var (pv 5) rfl) dc_nil)))) rfl (by decide)))
 (dss_cons (os1 := [false, false, false, false, false, false, false])
 (ds_if (PW.pt (dw_or (dt_cmp op_isC isC_ok isC_nx (nomark _) (de_var (pv 4) rfl) (dv_of de_non)) (pw_or1 (dt_val (dcall (ks := [none, none]) (ok_f_law_less c) rfl hr (by decide) (by rfl) (dc_val (de_ix (hr_cls hr) (by intro _ _; rfl) (de_var (pv 4) rfl) (dv_of de_int)) (dc_val (de_var (pv 6) rfl) dc_nil)) rfl (by decide))))))
 (dss_cons (os1 := [false, false, false, false, false, false, false])
 (ds_set (tg := .Constant .none 0 ⟨0, 0, 0, 0⟩) (fun h => ps_set (i := 4) sc_f_law_worst.nd rfl (by first | exact Or.inl rfl | exact Or.inr rfl) h) (by decide) (by decide) (de_tup (da_cons (de_var (pv 6) rfl) (da_cons (de_var (pv 5) rfl) da_nil))))
 dss_nil)
 dss_nil)
 dss_nil)))
 (dss_cons (os1 := [false, false, false, false, false, false, false]) (ds_ret rfl (de_var (pv 4) rfl)) dss_nil)))
abbrev N_f_law_right : List Str := ["rent", "price", "days", "number", "k", "worst", "other"]
theorem sc_f_law_right : FnScope N_f_law_right ["rent", "price", "days", "number", "k", "worst"] (defScope (top 33)) := ⟨rfl, rfl, rfl, by decide +kernel, rfl, by decide +kernel, by decide +kernel⟩
def l_f_law_right_1 : SM := (sSeq (sIf (eOr (eNot (eChain (α := Unit) (cmpD fun i j => decide (i ≤ j)) (cmpD fun i j => decide (i ≤ j)) (eRet (.int 1)) (e2 ixD (eVar 5) (eVar 6)) (eVar 2))) (e1 gBl (eCall [none, none] m_f_law_less (eCons (eCall [none, none, none, none] m_f_law_quotient (eCons (eVar 0) (eCons (eVar 1) (eCons (eVar 6) (eCons (e2 ixD (eVar 5) (eVar 6)) eNil))))) (eCons (eVar 3) eNil)))))
 (sSeq (sRet (eRet (.bl false))) sNil)
 sNil)
 sNil)
def b_f_law_right : SM := (sSeq (sIf (eOr (eNot (eChain (α := Unit) (cmpD fun i j => decide (i ≤ j)) (cmpD fun i j => decide (i ≤ j)) (eRet (.int 1)) (eVar 4) (e2 addD (eVar 2) (eRet (.int 1))))) (e2 neD (e1 sortedI (eVar 5)) (e2 lrngD (eRet (.int 1)) (e2 addD (eVar 2) (eRet (.int 2))))))
 (sSeq (sRet (eRet (.bl false))) sNil)
 sNil)
 (sSeq (sIf (e1 gBl (eCall [none, none] m_f_law_less (eCons (eVar 3) (eCons (e2 ixD (eCall [none, none, none, none] m_f_law_worst (eCons (eVar 0) (eCons (eVar 1) (eCons (eVar 2) (eCons (eVar 4) eNil))))) (eRet (.int 0))) eNil))))
 (sSeq (sRet (eRet (.bl false))) sNil)
 sNil)
 (sSeq (forA 5 (gSet 6) l_f_law_right_1)
 (sSeq (sRet (eRet (.bl true))) sNil))))
def m_f_law_right : List D → Res (D × List D) := fnM 7 6 false b_f_law_right
theorem ok_f_law_right (c : Base fa fn ex K mg) : Ok P w K mg base "_law_right" 7 ["rent", "price", "days", "number", "k", "worst"] [false, false, false, false, false, false] false m_f_law_right := mkOk c 28 28 rfl rfl (fun _ _ _ _ _ _ us hl => match us, hl with | [_, _, _, _, _, _], _ => rfl) fun F =>
  fn_D F sc_f_law_right rfl (by decide) (by decide) (kt := []) (os' := [false, false, false, false, false, false, false]) fun cdv A outer s H E hr => (dss_cons (os1 := [false, false, false, false, false, false, false])
 (ds_if (PW.pt (dw_or (dt_not (dt_chain op_le op_le (cmpD_ok fun i j => decide (i ≤ j)) (cmpD_ok fun i j => decide (i ≤ j)) (cmpD_nx _) (cmpD_nx _) de_int (de_var (pv 4) rfl) (dv_of (de_op op_add4 addD_ok addD_nx (de_var (pv 2) rfl) (dv_of de_int))))) (pw_or1 (dt_cmp (op_neD (hr_cls2 hr)) neD_ok neD_nx (nomark _) (de_of (de_call1 (fun h => pe_callB (call_sortI rfl) (by rfl) (c.free 40 rfl) (by first | exact boot_sorted | exact PySem.boot_sorted | exact PyProof.Rows.boot_sorted | exact L2.boot_sorted) h) sortedI_ok sortedI_nx (dv_var (pv 5)))) (dv_of (de_of (do_lrng2 rfl (by rfl) (c.free 38 rfl) (by rfl) (c.free 39 rfl) de_int (dv_of (de_op op_add4 addD_ok addD_nx (de_var (pv 2) rfl) (dv_of de_int))))))))))
 (dss_cons (os1 := [false, false, false, false, false, false, false]) (ds_ret rfl de_bl) dss_nil)
 dss_nil)
 (dss_cons (os1 := [false, false, false, false, false, false, false])
 (ds_if (dt_val (dcall (ks := [none, none]) (ok_f_law_less c) rfl hr (by decide) (by rfl) (dc_val (de_var (pv 3) rfl) (dc_val (de_ix (hr_cls hr) (by intro _ _; rfl) (dcall (ks := [none, none, none, none]) (ok_f_law_worst c) rfl hr (by decide) (by rfl) (dc_val (de_var (pv 0) rfl) (dc_val (de_var (pv 1) rfl) (dc_val (de_var (pv 2) rfl) (dc_val (de_var (pv 4) rfl) dc_nil)))) rfl (by decide)) (dv_of de_int)) dc_nil)) rfl (by decide)))
 (dss_cons (os1 := [false, false, false, false, false, false, false]) (ds_ret rfl de_bl) dss_nil)
 dss_nil)
 (dss_cons (os1 := [false, false, false, false, false, false, false])
 (ds_forA (os1 := [false, false, false, false, false, false, false]) PassesOwn.never rfl (pv 5) rfl (dg_name (pg_name (i := 6) sc_f_law_right.nd rfl (by first | exact Or.inl rfl | exact Or.inr rfl)) (by decide) (by decide))
 (dss_cons (os1 := [false, false, false, false, false, false, false])
 (ds_if (PW.pt (dw_or (dt_not (dt_chain op_le op_le (cmpD_ok fun i j => decide (i ≤ j)) (cmpD_ok fun i j => decide (i ≤ j)) (cmpD_nx _) (cmpD_nx _) de_int (de_ix (hr_cls hr) (by intro _ _; rfl) (de_var (pv 5) rfl) (dv_var (pv 6))) (dv_var (pv 2)))) (pw_or1 (dt_val (dcall (ks := [none, none]) (ok_f_law_less c) rfl hr (by decide) (by rfl) (dc_val (dcall (ks := [none, none, none, none]) (ok_f_law_quotient c) rfl hr (by decide) (by rfl) (dc_val (de_var (pv 0) rfl) (dc_val (de_var (pv 1) rfl) (dc_val (de_var (pv 6) rfl) (dc_val (de_ix (hr_cls hr) (by intro _ _; rfl) (de_var (pv 5) rfl) (dv_var (pv 6))) dc_nil)))) rfl (by decide)) (dc_val (de_var (pv 3) rfl) dc_nil)) rfl (by decide))))))
 (dss_cons (os1 := [false, false, false, false, false, false, false]) (ds_ret rfl de_bl) dss_nil)
 dss_nil)
 dss_nil))
 (dss_cons (os1 := [false, false, false, false, false, false, false]) (ds_ret rfl de_bl) dss_nil))))
abbrev N_f_law_bent : List Str := ["pool", "days", "paper", "number", "k", "worst", "way", "other"]
theorem sc_f_law_bent : FnScope N_f_law_bent ["pool", "days", "paper"] (defScope (top 34)) := ⟨rfl, rfl, rfl, by decide +kernel, rfl, by decide +kernel, by decide +kernel⟩
def b_f_law_bent : SM := (sSeq (sAsg (eVar 2) (gTupT 3 (gsCons (gSet 3) (gsCons (gSet 4) (gsCons (gSet 5) gsNil)))))
 (sSeq (sSet 5 (e1 dictD (eVar 5)))
 (sSeq (sSet 6 (eCall [some 0, none] m_f_law_draw (eConsO 0 (eCons (eRet (.int 6)) eNil))))
 (sSeq (sSet 7 (e2 addD (eRet (.int 1)) (eCall [some 0, none] m_f_law_draw (eConsO 0 (eCons (e2 addD (eVar 1) (eRet (.int 1))) eNil)))))
 (sSeq (sIf (e2 eqD (eVar 6) (eRet (.int 0)))
 (sSeq (sSet 3 (eCall [none, none] m_f_law_add (eCons (eVar 3) (eCons (eCall [some 0, none] m_f_law_pick (eConsO 0 (eCons (eL gLst (eCons (eL gTup (eCons (eRet (.int 1)) (eCons (eRet (.int 100)) eNil))) (eCons (eL gTup (eCons (e1 negD (eRet (.int 1))) (eCons (eRet (.int 100)) eNil))) eNil))) eNil))) eNil))))
 sNil)
 (sSeq (sIf (e2 eqD (eVar 6) (eRet (.int 1)))
 (sSeq (sSet 4 (eCall [some 0, none] m_f_law_pick (eConsO 0 (eCons (eL gLst (eCons (e2 addD (eVar 4) (eRet (.int 1))) (eCons (e2 subD (eVar 4) (eRet (.int 1))) (eCons (eRet (.int 0)) (eCons (e2 addD (eVar 1) (eRet (.int 1))) (eCons (e2 addD (eVar 1) (eRet (.int 2))) eNil)))))) eNil))))
 sNil)
 (sSeq (sIf (e2 eqD (eVar 6) (eRet (.int 2)))
 (sSeq (sPut 5 setD1 (eCall [some 0, none] m_f_law_pick (eConsO 0 (eCons (eL gLst (eCons (eRet (.int 1)) (eCons (eVar 1) (eCons (eRet (.int 0)) (eCons (e2 addD (eVar 1) (eRet (.int 1))) eNil))))) eNil))) (eVar 7))
 sNil)
 (sSeq (sIf (e2 eqD (eVar 6) (eRet (.int 3)))
 (sSeq (sDrop (eDPop 5 (eVar 7)))
 sNil)
 (sSeq (sIf (e2 eqD (eVar 6) (eRet (.int 4)))
 (sSeq (sPut 5 setD1 (eRet (.int 1)) (e2 addD (eVar 1) (eRet (.int 2))))
 sNil)
 (sSeq (sPut 5 setD1 (e2 addD (eRet (.int 1)) (eCall [some 0, none] m_f_law_draw (eConsO 0 (eCons (eVar 1) eNil)))) (eVar 7))
 sNil))
 sNil))
 sNil))
 sNil))
 sNil))
 (sSeq (sRet (eL gLst (eCons (eVar 3) (eCons (eVar 4) (eCons (eVar 5) eNil))))) sNil))))))
def m_f_law_bent : List D → Res (D × List D) := fnM 8 3 false b_f_law_bent
theorem ok_f_law_bent (c : Base fa fn ex K mg) : Ok P w K mg base "_law_bent" 5 ["pool", "days", "paper"] [true, false, false] false m_f_law_bent := mkOk c 29 29 rfl rfl (fun _ _ _ _ _ _ us hl => match us, hl with | [_, _, _], _ => rfl) fun F =>
  fn_D F sc_f_law_bent rfl (by decide) (by decide) (kt := []) (os' := [false, false, false, false, false, false, false, false]) fun cdv A outer s H E hr => (dss_cons (os1 := [true, false, false, false, false, false, false, false])
 (ds_asg (fun h g => ps_asg h g) (de_var (pv 2) rfl) (dg_tup rfl (dgs_cons (os1 := [true, false, false, false, false, false, false, false]) (dg_name (pg_name (i := 3) sc_f_law_bent.nd rfl (by first | exact Or.inl rfl | exact Or.inr rfl)) (by decide) (by decide)) (dgs_cons (os1 := [true, false, false, false, false, false, false, false]) (dg_name (pg_name (i := 4) sc_f_law_bent.nd rfl (by first | exact Or.inl rfl | exact Or.inr rfl)) (by decide) (by decide)) (dgs_cons (os1 := [true, false, false, false, false, false, false, false]) (dg_name (pg_name (i := 5) sc_f_law_bent.nd rfl (by first | exact Or.inl rfl | exact Or.inr rfl)) (by decide) (by decide)) dgs_nil)))))
 (dss_cons (os1 := [true, false, false, false, false, true, false, false])
 (ds_setO (tg := .Constant .none 0 ⟨0, 0, 0, 0⟩) (fun h => ps_set (i := 5) sc_f_law_bent.nd rfl (by first | exact Or.inl rfl | exact Or.inr rfl) h) (by decide) (by decide) (de_call1 (fun h => pe_callTy call_dictD (by rfl) (c.free 34 rfl) (by first | exact boot_dict | exact PySem.boot_dict | exact PyProof.Rows.boot_dict | exact L2.boot_dict) h) dictD_ok dictD_nx (dv_var (pv 5))))
 (dss_cons (os1 := [true, false, false, false, false, true, false, false])
 (ds_set (tg := .Constant .none 0 ⟨0, 0, 0, 0⟩) (fun h => ps_set (i := 6) sc_f_law_bent.nd rfl (by first | exact Or.inl rfl | exact Or.inr rfl) h) (by decide) (by decide) (dcall (ks := [some 0, none]) (ok_f_law_draw c) rfl hr (by decide) (by rfl) (dc_own (pv 0) (dc_val de_int dc_nil)) rfl (by decide)))
 (dss_cons (os1 := [true, false, false, false, false, true, false, false])
 (ds_set (tg := .Constant .none 0 ⟨0, 0, 0, 0⟩) (fun h => ps_set (i := 7) sc_f_law_bent.nd rfl (by first | exact Or.inl rfl | exact Or.inr rfl) h) (by decide) (by decide) (de_op op_add4 addD_ok addD_nx de_int (dv_of (dcall (ks := [some 0, none]) (ok_f_law_draw c) rfl hr (by decide) (by rfl) (dc_own (pv 0) (dc_val (de_op op_add4 addD_ok addD_nx (de_var (pv 1) rfl) (dv_of de_int)) dc_nil)) rfl (by decide)))))
 (dss_cons (os1 := [true, false, false, false, false, true, false, false])
 (ds_if (dt_cmp (op_eqD (hr_cls2 hr)) eqD_ok eqD_nx (nomark _) (de_var (pv 6) rfl) (dv_of de_int))
 (dss_cons (os1 := [true, false, false, false, false, true, false, false])
 (ds_set (tg := .Constant .none 0 ⟨0, 0, 0, 0⟩) (fun h => ps_set (i := 3) sc_f_law_bent.nd rfl (by first | exact Or.inl rfl | exact Or.inr rfl) h) (by decide) (by decide) (dcall (ks := [none, none]) (ok_f_law_add c) rfl hr (by decide) (by rfl) (dc_val (de_var (pv 3) rfl) (dc_val (dcall (ks := [some 0, none]) (ok_f_law_pick c) rfl hr (by decide) (by rfl) (dc_own (pv 0) (dc_val (de_of (do_lst (k := 0) (da_cons (de_tup (da_cons de_int (da_cons de_int da_nil))) (da_cons (de_tup (da_cons (de_un un_neg negD_ok negD_nx (dv_of de_int)) (da_cons de_int da_nil))) da_nil)))) dc_nil)) rfl (by decide)) dc_nil)) rfl (by decide)))
 dss_nil)
 (dss_cons (os1 := [true, false, false, false, false, true, false, false])
 (ds_if (dt_cmp (op_eqD (hr_cls2 hr)) eqD_ok eqD_nx (nomark _) (de_var (pv 6) rfl) (dv_of de_int))
 (dss_cons (os1 := [true, false, false, false, false, true, false, false])
 (ds_set (tg := .Constant .none 0 ⟨0, 0, 0, 0⟩) (fun h => ps_set (i := 4) sc_f_law_bent.nd rfl (by first | exact Or.inl rfl | exact Or.inr rfl) h) (by decide) (by decide) (dcall (ks := [some 0, none]) (ok_f_law_pick c) rfl hr (by decide) (by rfl) (dc_own (pv 0) (dc_val (de_of (do_lst (k := 0) (da_cons (de_op op_add4 addD_ok addD_nx (de_var (pv 4) rfl) (dv_of de_int)) (da_cons (de_op op_sub subD_ok subD_nx (de_var (pv 4) rfl) (dv_of de_int)) (da_cons de_int (da_cons (de_op op_add4 addD_ok addD_nx (de_var (pv 1) rfl) (dv_of de_int)) (da_cons (de_op op_add4 addD_ok addD_nx (de_var (pv 1) rfl) (dv_of de_int)) da_nil))))))) dc_nil)) rfl (by decide)))
 dss_nil)
 (dss_cons (os1 := [true, false, false, false, false, true, false, false])
 (ds_if (dt_cmp (op_eqD (hr_cls2 hr)) eqD_ok eqD_nx (nomark _) (de_var (pv 6) rfl) (dv_of de_int))
 (dss_cons (os1 := [true, false, false, false, false, true, false, false])
 (ds_put rfl (pv 5) (dcall (ks := [some 0, none]) (ok_f_law_pick c) rfl hr (by decide) (by rfl) (dc_own (pv 0) (dc_val (de_of (do_lst (k := 0) (da_cons de_int (da_cons (de_var (pv 1) rfl) (da_cons de_int (da_cons (de_op op_add4 addD_ok addD_nx (de_var (pv 1) rfl) (dv_of de_int)) da_nil)))))) dc_nil)) rfl (by decide)) (dv_var (pv 7)) (hr_cls hr) (fun h g => ps_asg h g))
 dss_nil)
 (dss_cons (os1 := [true, false, false, false, false, true, false, false])
 (ds_if (dt_cmp (op_eqD (hr_cls2 hr)) eqD_ok eqD_nx (nomark _) (de_var (pv 6) rfl) (dv_of de_int))
 (dss_cons (os1 := [true, false, false, false, false, true, false, false])
 (ds_expr (α := Unit) (fun h => ps_expr h) (de_dpop rfl (pv 5) (dv_var (pv 7)) ⟨rfl, rfl, rfl, rfl⟩))
 dss_nil)
 (dss_cons (os1 := [true, false, false, false, false, true, false, false])
 (ds_if (dt_cmp (op_eqD (hr_cls2 hr)) eqD_ok eqD_nx (nomark _) (de_var (pv 6) rfl) (dv_of de_int))
 (dss_cons (os1 := [true, false, false, false, false, true, false, false])
 (ds_put rfl (pv 5) de_int (dv_of (de_op op_add4 addD_ok addD_nx (de_var (pv 1) rfl) (dv_of de_int))) (hr_cls hr) (fun h g => ps_asg h g))
 dss_nil)
 (dss_cons (os1 := [true, false, false, false, false, true, false, false])
 (ds_put rfl (pv 5) (de_op op_add4 addD_ok addD_nx de_int (dv_of (dcall (ks := [some 0, none]) (ok_f_law_draw c) rfl hr (by decide) (by rfl) (dc_own (pv 0) (dc_val (de_var (pv 1) rfl) dc_nil)) rfl (by decide)))) (dv_var (pv 7)) (hr_cls hr) (fun h g => ps_asg h g))
 dss_nil))
 dss_nil))
 dss_nil))
 dss_nil))
 dss_nil))
 (dss_fz 5 (by decide) (dss_cons (os1 := [false, false, false, false, false, false, false, false]) (ds_ret rfl (de_of (do_lst (k := 0) (da_cons (de_var (pv 3) rfl) (da_cons (de_var (pv 4) rfl) (da_cons (de_var (pv 5) rfl) da_nil)))))) dss_nil)))))))
abbrev N_law : List Str := ["script", "pool", "rent", "price", "times_v", "days", "k", "ask", "told", "found", "worst", "number", "m", "paper", "due"]
theorem sc_law : FnScope N_law ["script"] (defScope (top 35)) := ⟨rfl, rfl, rfl, by decide +kernel, rfl, by decide +kernel, by decide +kernel⟩
def l_law_1 : SM := (sSeq (sSet 7 (eL gTup (eCons (e2 addD (eRet (.int 1)) (eCall [some 1, none] m_f_law_draw (eConsO 1 (eCons (e2 addD (eVar 5) (eRet (.int 1))) eNil)))) (eCons (e2 addD (eRet (.int 1)) (eCall [some 1, none] m_f_law_draw (eConsO 1 (eCons (eVar 5) eNil)))) eNil))))
 (sSeq (sSet 8 (eL gLst (eCons (eCall [none, none, none, none] m_pays (eCons (eVar 2) (eCons (eVar 3) (eCons (e2 ixD (eVar 7) (eRet (.int 0))) (eCons (e2 ixD (eVar 7) (eRet (.int 1))) eNil))))) (eCons (eCall [none, none, none, none] m_ratio (eCons (eVar 2) (eCons (eVar 3) (eCons (e2 ixD (eVar 7) (eRet (.int 0))) (eCons (e2 ixD (eVar 7) (eRet (.int 1))) eNil))))) eNil))))
 (sSeq (sIf (eNot (e1 gBl (eCall [none, none] (m_f_law_same 8) (eCons (eVar 8) (eCons (eL gLst (eCons (eCall [none, none, none, none] m_f_law_pays (eCons (eVar 2) (eCons (eVar 3) (eCons (e2 ixD (eVar 7) (eRet (.int 0))) (eCons (e2 ixD (eVar 7) (eRet (.int 1))) eNil))))) (eCons (eCall [none, none, none, none] m_f_law_quotient (eCons (eVar 2) (eCons (eVar 3) (eCons (e2 ixD (eVar 7) (eRet (.int 0))) (eCons (e2 ixD (eVar 7) (eRet (.int 1))) eNil))))) eNil))) eNil)))))
 (sSeq (sRet (eRet (.bl false))) sNil)
 sNil)
 sNil)))
def l_law_2 : SM := (sSeq (sAsg (eCall [none, none, none, none] m_f_law_worst (eCons (eVar 2) (eCons (eVar 3) (eCons (eVar 5) (eCons (eVar 6) eNil))))) (gTupT 2 (gsCons (gSet 11) (gsCons (gSet 12) gsNil))))
 (sSeq (sPut 10 setD1 (eVar 12) (eVar 6))
 (sSeq (sIf (eOr (e2 eqD (eVar 9) (eL gLst eNil)) (e1 gBl (eCall [none, none] m_f_law_less (eCons (eVar 11) (eCons (e2 ixD (eVar 9) (eRet (.int 0))) eNil)))))
 (sSeq (sSet 9 (eL gLst (eCons (eVar 11) (eCons (eVar 6) eNil))))
 sNil)
 sNil)
 sNil)))
def l_law_3 : SM := (sSeq (sDrop (eCall [some 1] m_f_law_next (eConsO 1 eNil)))
 (sSeq (sSet 13 (eIf (e2 eqD (eVar 6) (eRet (.int 0))) (e1 listD (eVar 8)) (eCall [some 1, none, none] m_f_law_bent (eConsO 1 (eCons (eVar 5) (eCons (eVar 8) eNil))))))
 (sSeq (sSet 14 (eCall [none, none, none, none, none, none] m_f_law_right (eCons (eVar 2) (eCons (eVar 3) (eCons (eVar 5) (eCons (e2 ixD (eVar 13) (eRet (.int 0))) (eCons (e2 ixD (eVar 13) (eRet (.int 1))) (eCons (e2 ixD (eVar 13) (eRet (.int 2))) eNil))))))))
 (sSeq (sIf (eNot (e1 gBl (eCall [none, none] (m_f_law_same 8) (eCons (eCall [none, none, none, none, none, none] m_judge_rent (eCons (eVar 2) (eCons (eVar 3) (eCons (eVar 5) (eCons (e2 ixD (eVar 13) (eRet (.int 0))) (eCons (e2 ixD (eVar 13) (eRet (.int 1))) (eCons (e1 dictD (e2 ixD (eVar 13) (eRet (.int 2)))) eNil))))))) (eCons (eVar 14) eNil)))))
 (sSeq (sRet (eRet (.bl false))) sNil)
 sNil)
 sNil))))
def b_law : SM := (sSeq (sSet 1 (eCall [none] m_f_law_pool (eCons (eVar 0) eNil)))
 (sSeq (sSet 2 (eCall [none, none] m_f_law_ratio (eCons (e2 addD (eRet (.int 1)) (eCall [some 1, none] m_f_law_draw (eConsO 1 (eCons (eRet (.int 6)) eNil)))) (eCons (e2 addD (eRet (.int 1)) (eCall [some 1, none] m_f_law_draw (eConsO 1 (eCons (eRet (.int 4)) eNil)))) eNil))))
 (sSeq (sSet 3 (eCall [none, none] m_f_law_ratio (eCons (e2 addD (eRet (.int 1)) (eCall [some 1, none] m_f_law_draw (eConsO 1 (eCons (eRet (.int 60)) eNil)))) (eCons (e2 addD (eRet (.int 1)) (eCall [some 1, none] m_f_law_draw (eConsO 1 (eCons (eRet (.int 3)) eNil)))) eNil))))
 (sSeq (sSet 4 (e2 addD (eRet (.int 1)) (eCall [some 1, none] m_f_law_draw (eConsO 1 (eCons (eRet (.int 9)) eNil)))))
 (sSeq (sIf (e2 eqD (eCall [some 1, none] m_f_law_draw (eConsO 1 (eCons (eRet (.int 3)) eNil))) (eRet (.int 0)))
 (sSeq (sSet 3 (eCall [none, none] m_f_law_mul (eCons (eVar 2) (eCons (eL gTup (eCons (eVar 4) (eCons (eRet (.int 1)) eNil))) eNil))))
 sNil)
 sNil)
 (sSeq (sSet 5 (e2 addD (eRet (.int 1)) (eCall [some 1, none] m_f_law_draw (eConsO 1 (eCons (eCall [some 1, none] m_f_law_pick (eConsO 1 (eCons (eL gLst (eCons (eRet (.int 3)) (eCons (eRet (.int 12)) (eCons (eRet (.int 40)) eNil)))) eNil))) eNil)))))
 (sSeq (sFor (e1 rng1D (eRet (.int 3))) (gSet 6) l_law_1)
 (sSeq (sSet 9 (eL gLst eNil))
 (sSeq (sSet 10 (eRet (.dic false [])))
 (sSeq (sFor (e2 rng2D (eRet (.int 1)) (e2 addD (eVar 5) (eRet (.int 2)))) (gSet 6) l_law_2)
 (sSeq (sSet 8 (eCall [none, none, none] m_best_rent (eCons (eVar 2) (eCons (eVar 3) (eCons (eVar 5) eNil)))))
 (sSeq (sIf (eOr (eNot (e1 gBl (eCall [none, none] (m_f_law_same 8) (eCons (eVar 8) (eCons (eL gTup (eCons (e2 ixD (eVar 9) (eRet (.int 0))) (eCons (e2 ixD (eVar 9) (eRet (.int 1))) (eCons (eVar 10) eNil)))) eNil))))) (e1 gBl (eCall [none, none] m_f_law_less (eCons (eL gTup (eCons (eRet (.int 2)) (eCons (eRet (.int 1)) eNil))) (eCons (e2 ixD (eVar 8) (eRet (.int 0))) eNil)))))
 (sSeq (sRet (eRet (.bl false))) sNil)
 sNil)
 (sSeq (sIf (eAnd (e2 eqD (eVar 3) (eCall [none, none] m_f_law_mul (eCons (eVar 2) (eCons (eL gTup (eCons (eVar 4) (eCons (eRet (.int 1)) eNil))) eNil)))) (eAnd (e2 (cmpD fun i j => decide (j ≤ i)) (eVar 5) (e2 subD (e2 mulD (eRet (.int 2)) (eVar 4)) (eRet (.int 1)))) (e2 neD (e2 ixD (eVar 8) (eRet (.int 0))) (eCall [none, none] m_f_law_ratio (eCons (e2 subD (e2 mulD (eRet (.int 2)) (eVar 4)) (eRet (.int 1))) (eCons (eVar 4) eNil))))))
 (sSeq (sRet (eRet (.bl false))) sNil)
 sNil)
 (sSeq (sFor (e1 rng1D (eRet (.int 5))) (gSet 6) l_law_3)
 (sSeq (sRet (eRet (.bl true))) sNil)))))))))))))))
def m_law : List D → Res (D × List D) := fnM 15 1 false b_law
theorem fn_law (c : Base fa fn ex K mg) {f : Addr} {fd : FuncData} (F : FunD K "law" "law" (defArgs (top 35)) (defBody (top 35)) (defScope (top 35)) [] [] f fd) : FnOk P w K mg base CX0 10 f fd ["script"] (spD K [false] false m_law) :=
  fn_D F sc_law rfl (by decide) (by decide) (kt := []) (os' := [false, false, false, false, false, false, false, false, false, false, false, false, false, false, false]) fun cdv A outer s H E hr => (dss_cons (os1 := [false, true, false, false, false, false, false, false, false, false, false, false, false, false, false])
 (ds_setO (tg := .Constant .none 0 ⟨0, 0, 0, 0⟩) (fun h => ps_set (i := 1) sc_law.nd rfl (by first | exact Or.inl rfl | exact Or.inr rfl) h) (by decide) (by decide) (ocall (ks := [none]) (ok_f_law_pool c) rfl hr (by decide) (by rfl) (dc_val (de_var (pv 0) rfl) dc_nil) rfl (by decide)))
 (dss_cons (os1 := [false, true, false, false, false, false, false, false, false, false, false, false, false, false, false])
 (ds_set (tg := .Constant .none 0 ⟨0, 0, 0, 0⟩) (fun h => ps_set (i := 2) sc_law.nd rfl (by first | exact Or.inl rfl | exact Or.inr rfl) h) (by decide) (by decide) (dcall (ks := [none, none]) (ok_f_law_ratio c) rfl hr (by decide) (by rfl) (dc_val (de_op op_add4 addD_ok addD_nx de_int (dv_of (dcall (ks := [some 1, none]) (ok_f_law_draw c) rfl hr (by decide) (by rfl) (dc_own (pv 1) (dc_val de_int dc_nil)) rfl (by decide)))) (dc_val (de_op op_add4 addD_ok addD_nx de_int (dv_of (dcall (ks := [some 1, none]) (ok_f_law_draw c) rfl hr (by decide) (by rfl) (dc_own (pv 1) (dc_val de_int dc_nil)) rfl (by decide)))) dc_nil)) rfl (by decide)))
 (dss_cons (os1 := [false, true, false, false, false, false, false, false, false, false, false, false, false, false, false])
 (ds_set (tg := .Constant .none 0 ⟨0, 0, 0, 0⟩) (fun h => ps_set (i := 3) sc_law.nd rfl (by first | exact Or.inl rfl | exact Or.inr rfl) h) (by decide) (by decide) (dcall (ks := [none, none]) (ok_f_law_ratio c) rfl hr (by decide) (by rfl) (dc_val (de_op op_add4 addD_ok addD_nx de_int (dv_of (dcall (ks := [some 1, none]) (ok_f_law_draw c) rfl hr (by decide) (by rfl) (dc_own (pv 1) (dc_val de_int dc_nil)) rfl (by decide)))) (dc_val (de_op op_add4 addD_ok addD_nx de_int (dv_of (dcall (ks := [some 1, none]) (ok_f_law_draw c) rfl hr (by decide) (by rfl) (dc_own (pv 1) (dc_val de_int dc_nil)) rfl (by decide)))) dc_nil)) rfl (by decide)))
 (dss_cons (os1 := [false, true, false, false, false, false, false, false, false, false, false, false, false, false, false])
 (ds_set (tg := .Constant .none 0 ⟨0, 0, 0, 0⟩) (fun h => ps_set (i := 4) sc_law.nd rfl (by first | exact Or.inl rfl | exact Or.inr rfl) h) (by decide) (by decide) (de_op op_add4 addD_ok addD_nx de_int (dv_of (dcall (ks := [some 1, none]) (ok_f_law_draw c) rfl hr (by decide) (by rfl) (dc_own (pv 1) (dc_val de_int dc_nil)) rfl (by decide)))))
 (dss_cons (os1 := [false, true, false, false, false, false, false, false, false, false, false, false, false, false, false])
 (ds_if (dt_cmp (op_eqD (hr_cls2 hr)) eqD_ok eqD_nx (nomark _) (dcall (ks := [some 1, none]) (ok_f_law_draw c) rfl hr (by decide) (by rfl) (dc_own (pv 1) (dc_val de_int dc_nil)) rfl (by decide)) (dv_of de_int))
 (dss_cons (os1 := [false, true, false, false, false, false, false, false, false, false, false, false, false, false, false])
 (ds_set (tg := .Constant .none 0 ⟨0, 0, 0, 0⟩) (fun h => ps_set (i := 3) sc_law.nd rfl (by first | exact Or.inl rfl | exact Or.inr rfl) h) (by decide) (by decide) (dcall (ks := [none, none]) (ok_f_law_mul c) rfl hr (by decide) (by rfl) (dc_val (de_var (pv 2) rfl) (dc_val (de_tup (da_cons (de_var (pv 4) rfl) (da_cons de_int da_nil))) dc_nil)) rfl (by decide)))
 dss_nil)
 dss_nil)
 (dss_cons (os1 := [false, true, false, false, false, false, false, false, false, false, false, false, false, false, false])
 (ds_set (tg := .Constant .none 0 ⟨0, 0, 0, 0⟩) (fun h => ps_set (i := 5) sc_law.nd rfl (by first | exact Or.inl rfl | exact Or.inr rfl) h) (by decide) (by decide) (de_op op_add4 addD_ok addD_nx de_int (dv_of (dcall (ks := [some 1, none]) (ok_f_law_draw c) rfl hr (by decide) (by rfl) (dc_own (pv 1) (dc_val (dcall (ks := [some 1, none]) (ok_f_law_pick c) rfl hr (by decide) (by rfl) (dc_own (pv 1) (dc_val (de_of (do_lst (k := 0) (da_cons de_int (da_cons de_int (da_cons de_int da_nil))))) dc_nil)) rfl (by decide)) dc_nil)) rfl (by decide)))))
 (dss_cons (os1 := [false, true, false, false, false, false, false, false, false, false, false, false, false, false, false])
 (ds_for (os1 := [false, true, false, false, false, false, false, false, false, false, false, false, false, false, false]) PassesOwn.never rfl (di_range1 (fun h => pi_range1 (by rfl) (c.free 39 rfl) h) (dv_of de_int)) (dg_name (pg_name (i := 6) sc_law.nd rfl (by first | exact Or.inl rfl | exact Or.inr rfl)) (by decide) (by decide))
 (dss_cons (os1 := [false, true, false, false, false, false, false, false, false, false, false, false, false, false, false])
 (ds_set (tg := .Constant .none 0 ⟨0, 0, 0, 0⟩) (fun h => ps_set (i := 7) sc_law.nd rfl (by first | exact Or.inl rfl | exact Or.inr rfl) h) (by decide) (by decide) (de_tup (da_cons (de_op op_add4 addD_ok addD_nx de_int (dv_of (dcall (ks := [some 1, none]) (ok_f_law_draw c) rfl hr (by decide) (by rfl) (dc_own (pv 1) (dc_val (de_op op_add4 addD_ok addD_nx (de_var (pv 5) rfl) (dv_of de_int)) dc_nil)) rfl (by decide)))) (da_cons (de_op op_add4 addD_ok addD_nx de_int (dv_of (dcall (ks := [some 1, none]) (ok_f_law_draw c) rfl hr (by decide) (by rfl) (dc_own (pv 1) (dc_val (de_var (pv 5) rfl) dc_nil)) rfl (by decide)))) da_nil))))
 (dss_cons (os1 := [false, true, false, false, false, false, false, false, false, false, false, false, false, false, false])
 (ds_set (tg := .Constant .none 0 ⟨0, 0, 0, 0⟩) (fun h => ps_set (i := 8) sc_law.nd rfl (by first | exact Or.inl rfl | exact Or.inr rfl) h) (by decide) (by decide) (de_of (do_lst (k := 0) (da_cons (dcall (ks := [none, none, none, none]) (ok_pays c) rfl hr (by decide) (by rfl) (dc_val (de_var (pv 2) rfl) (dc_val (de_var (pv 3) rfl) (dc_val (de_ix (hr_cls hr) (by intro _ _; rfl) (de_var (pv 7) rfl) (dv_of de_int)) (dc_val (de_ix (hr_cls hr) (by intro _ _; rfl) (de_var (pv 7) rfl) (dv_of de_int)) dc_nil)))) rfl (by decide)) (da_cons (dcall (ks := [none, none, none, none]) (ok_ratio c) rfl hr (by decide) (by rfl) (dc_val (de_var (pv 2) rfl) (dc_val (de_var (pv 3) rfl) (dc_val (de_ix (hr_cls hr) (by intro _ _; rfl) (de_var (pv 7) rfl) (dv_of de_int)) (dc_val (de_ix (hr_cls hr) (by intro _ _; rfl) (de_var (pv 7) rfl) (dv_of de_int)) dc_nil)))) rfl (by decide)) da_nil)))))
 (dss_cons (os1 := [false, true, false, false, false, false, false, false, false, false, false, false, false, false, false])
 (ds_if (dt_not (dt_val (dcall (ks := [none, none]) (ok_f_law_same c 8) rfl hr (by decide) (by rfl) (dc_val (de_var (pv 8) rfl) (dc_val (de_of (do_lst (k := 0) (da_cons (dcall (ks := [none, none, none, none]) (ok_f_law_pays c) rfl hr (by decide) (by rfl) (dc_val (de_var (pv 2) rfl) (dc_val (de_var (pv 3) rfl) (dc_val (de_ix (hr_cls hr) (by intro _ _; rfl) (de_var (pv 7) rfl) (dv_of de_int)) (dc_val (de_ix (hr_cls hr) (by intro _ _; rfl) (de_var (pv 7) rfl) (dv_of de_int)) dc_nil)))) rfl (by decide)) (da_cons (dcall (ks := [none, none, none, none]) (ok_f_law_quotient c) rfl hr (by decide) (by rfl) (dc_val (de_var (pv 2) rfl) (dc_val (de_var (pv 3) rfl) (dc_val (de_ix (hr_cls hr) (by intro _ _; rfl) (de_var (pv 7) rfl) (dv_of de_int)) (dc_val (de_ix (hr_cls hr) (by intro _ _; rfl) (de_var (pv 7) rfl) (dv_of de_int)) dc_nil)))) rfl (by decide)) da_nil)))) dc_nil)) rfl (by decide))))
 (dss_cons (os1 := [false, true, false, false, false, false, false, false, false, false, false, false, false, false, false]) (ds_ret rfl de_bl) dss_nil)
 dss_nil)
 dss_nil))))
 (dss_cons (os1 := [false, true, false, false, false, false, false, false, false, false, false, false, false, false, false])
 (ds_set (tg := .Constant .none 0 ⟨0, 0, 0, 0⟩) (fun h => ps_set (i := 9) sc_law.nd rfl (by first | exact Or.inl rfl | exact Or.inr rfl) h) (by decide) (by decide) (de_of (do_lst (k := 0) da_nil)))
 (dss_cons (os1 := [false, true, false, false, false, false, false, false, false, false, true, false, false, false, false])
 (ds_setO (tg := .Constant .none 0 ⟨0, 0, 0, 0⟩) (fun h => ps_set (i := 10) sc_law.nd rfl (by first | exact Or.inl rfl | exact Or.inr rfl) h) (by decide) (by decide) do_newK)
 (dss_cons (os1 := [false, true, false, false, false, false, false, false, false, false, true, false, false, false, false])
 (ds_for (os1 := [false, true, false, false, false, false, false, false, false, false, true, false, false, false, false]) PassesOwn.never rfl (di_range2 (fun h => pi_range2 (by rfl) (c.free 39 rfl) h) de_int (dv_of (de_op op_add4 addD_ok addD_nx (de_var (pv 5) rfl) (dv_of de_int)))) (dg_name (pg_name (i := 6) sc_law.nd rfl (by first | exact Or.inl rfl | exact Or.inr rfl)) (by decide) (by decide))
 (dss_cons (os1 := [false, true, false, false, false, false, false, false, false, false, true, false, false, false, false])
 (ds_asg (fun h g => ps_asg h g) (dcall (ks := [none, none, none, none]) (ok_f_law_worst c) rfl hr (by decide) (by rfl) (dc_val (de_var (pv 2) rfl) (dc_val (de_var (pv 3) rfl) (dc_val (de_var (pv 5) rfl) (dc_val (de_var (pv 6) rfl) dc_nil)))) rfl (by decide)) (dg_tup rfl (dgs_cons (os1 := [false, true, false, false, false, false, false, false, false, false, true, false, false, false, false]) (dg_name (pg_name (i := 11) sc_law.nd rfl (by first | exact Or.inl rfl | exact Or.inr rfl)) (by decide) (by decide)) (dgs_cons (os1 := [false, true, false, false, false, false, false, false, false, false, true, false, false, false, false]) (dg_name (pg_name (i := 12) sc_law.nd rfl (by first | exact Or.inl rfl | exact Or.inr rfl)) (by decide) (by decide)) dgs_nil))))
 (dss_cons (os1 := [false, true, false, false, false, false, false, false, false, false, true, false, false, false, false])
 (ds_put rfl (pv 10) (de_var (pv 12) rfl) (dv_var (pv 6)) (hr_cls hr) (fun h g => ps_asg h g))
 (dss_cons (os1 := [false, true, false, false, false, false, false, false, false, false, true, false, false, false, false])
 (ds_if (PW.pt (dw_or (dt_cmp (op_eqD (hr_cls2 hr)) eqD_ok eqD_nx (nomark _) (de_var (pv 9) rfl) (dv_of (de_of (do_lst (k := 0) da_nil)))) (pw_or1 (dt_val (dcall (ks := [none, none]) (ok_f_law_less c) rfl hr (by decide) (by rfl) (dc_val (de_var (pv 11) rfl) (dc_val (de_ix (hr_cls hr) (by intro _ _; rfl) (de_var (pv 9) rfl) (dv_of de_int)) dc_nil)) rfl (by decide))))))
 (dss_cons (os1 := [false, true, false, false, false, false, false, false, false, false, true, false, false, false, false])
 (ds_set (tg := .Constant .none 0 ⟨0, 0, 0, 0⟩) (fun h => ps_set (i := 9) sc_law.nd rfl (by first | exact Or.inl rfl | exact Or.inr rfl) h) (by decide) (by decide) (de_of (do_lst (k := 0) (da_cons (de_var (pv 11) rfl) (da_cons (de_var (pv 6) rfl) da_nil)))))
 dss_nil)
 dss_nil)
 dss_nil))))
 (dss_cons (os1 := [false, true, false, false, false, false, false, false, false, false, true, false, false, false, false])
 (ds_set (tg := .Constant .none 0 ⟨0, 0, 0, 0⟩) (fun h => ps_set (i := 8) sc_law.nd rfl (by first | exact Or.inl rfl | exact Or.inr rfl) h) (by decide) (by decide) (dcall (ks := [none, none, none]) (ok_best_rent c) rfl hr (by decide) (by rfl) (dc_val (de_var (pv 2) rfl) (dc_val (de_var (pv 3) rfl) (dc_val (de_var (pv 5) rfl) dc_nil))) rfl (by decide)))
 (dss_fz 10 (by decide) (dss_cons (os1 := [false, true, false, false, false, false, false, false, false, false, false, false, false, false, false])
 (ds_if (PW.pt (dw_or (dt_not (dt_val (dcall (ks := [none, none]) (ok_f_law_same c 8) rfl hr (by decide) (by rfl) (dc_val (de_var (pv 8) rfl) (dc_val (de_tup (da_cons (de_ix (hr_cls hr) (by intro _ _; rfl) (de_var (pv 9) rfl) (dv_of de_int)) (da_cons (de_ix (hr_cls hr) (by intro _ _; rfl) (de_var (pv 9) rfl) (dv_of de_int)) (da_cons (de_var (pv 10) rfl) da_nil)))) dc_nil)) rfl (by decide)))) (pw_or1 (dt_val (dcall (ks := [none, none]) (ok_f_law_less c) rfl hr (by decide) (by rfl) (dc_val (de_tup (da_cons de_int (da_cons de_int da_nil))) (dc_val (de_ix (hr_cls hr) (by intro _ _; rfl) (de_var (pv 8) rfl) (dv_of de_int)) dc_nil)) rfl (by decide))))))
 (dss_cons (os1 := [false, true, false, false, false, false, false, false, false, false, false, false, false, false, false]) (ds_ret rfl de_bl) dss_nil)
 dss_nil)
 (dss_cons (os1 := [false, true, false, false, false, false, false, false, false, false, false, false, false, false, false])
 (ds_if (PW.pt (dw_and (dt_cmp (op_eqD (hr_cls2 hr)) eqD_ok eqD_nx (nomark _) (de_var (pv 3) rfl) (dv_of (dcall (ks := [none, none]) (ok_f_law_mul c) rfl hr (by decide) (by rfl) (dc_val (de_var (pv 2) rfl) (dc_val (de_tup (da_cons (de_var (pv 4) rfl) (da_cons de_int da_nil))) dc_nil)) rfl (by decide)))) (dw_and (dt_cmp op_ge (cmpD_ok fun i j => decide (j ≤ i)) (cmpD_nx _) (nomark _) (de_var (pv 5) rfl) (dv_of (de_op op_sub subD_ok subD_nx (de_op op_mul2 mulD_ok mulD_nx de_int (dv_var (pv 4))) (dv_of de_int)))) (pw_and1 (dt_cmp (op_neD (hr_cls2 hr)) neD_ok neD_nx (nomark _) (de_ix (hr_cls hr) (by intro _ _; rfl) (de_var (pv 8) rfl) (dv_of de_int)) (dv_of (dcall (ks := [none, none]) (ok_f_law_ratio c) rfl hr (by decide) (by rfl) (dc_val (de_op op_sub subD_ok subD_nx (de_op op_mul2 mulD_ok mulD_nx de_int (dv_var (pv 4))) (dv_of de_int)) (dc_val (de_var (pv 4) rfl) dc_nil)) rfl (by decide))))))))
 (dss_cons (os1 := [false, true, false, false, false, false, false, false, false, false, false, false, false, false, false]) (ds_ret rfl de_bl) dss_nil)
 dss_nil)
 (dss_cons (os1 := [false, true, false, false, false, false, false, false, false, false, false, false, false, false, false])
 (ds_for (os1 := [false, true, false, false, false, false, false, false, false, false, false, false, false, false, false]) PassesOwn.never rfl (di_range1 (fun h => pi_range1 (by rfl) (c.free 39 rfl) h) (dv_of de_int)) (dg_name (pg_name (i := 6) sc_law.nd rfl (by first | exact Or.inl rfl | exact Or.inr rfl)) (by decide) (by decide))
 (dss_cons (os1 := [false, true, false, false, false, false, false, false, false, false, false, false, false, false, false])
 (ds_expr (α := Unit) (fun h => ps_expr h) (dcall (ks := [some 1]) (ok_f_law_next c) rfl hr (by decide) (by rfl) (dc_own (pv 1) dc_nil) rfl (by decide)))
 (dss_cons (os1 := [false, true, false, false, false, false, false, false, false, false, false, false, false, false, false])
 (ds_set (tg := .Constant .none 0 ⟨0, 0, 0, 0⟩) (fun h => ps_set (i := 13) sc_law.nd rfl (by first | exact Or.inl rfl | exact Or.inr rfl) h) (by decide) (by decide) (de_if (dt_cmp (op_eqD (hr_cls2 hr)) eqD_ok eqD_nx (nomark _) (de_var (pv 6) rfl) (dv_of de_int)) (de_of (de_call1 (fun h => pe_callTy (call_list2 rfl) (by rfl) (c.free 38 rfl) (by first | exact boot_list | exact PySem.boot_list | exact PyProof.Rows.boot_list | exact L2.boot_list) h) listD_ok listD_nx (dv_var (pv 8)))) (dcall (ks := [some 1, none, none]) (ok_f_law_bent c) rfl hr (by decide) (by rfl) (dc_own (pv 1) (dc_val (de_var (pv 5) rfl) (dc_val (de_var (pv 8) rfl) dc_nil))) rfl (by decide))))
 (dss_cons (os1 := [false, true, false, false, false, false, false, false, false, false, false, false, false, false, false])
 (ds_set (tg := .Constant .none 0 ⟨0, 0, 0, 0⟩) (fun h => ps_set (i := 14) sc_law.nd rfl (by first | exact Or.inl rfl | exact Or.inr rfl) h) (by decide) (by decide) (dcall (ks := [none, none, none, none, none, none]) (ok_f_law_right c) rfl hr (by decide) (by rfl) (dc_val (de_var (pv 2) rfl) (dc_val (de_var (pv 3) rfl) (dc_val (de_var (pv 5) rfl) (dc_val (de_ix (hr_cls hr) (by intro _ _; rfl) (de_var (pv 13) rfl) (dv_of de_int)) (dc_val (de_ix (hr_cls hr) (by intro _ _; rfl) (de_var (pv 13) rfl) (dv_of de_int)) (dc_val (de_ix (hr_cls hr) (by intro _ _; rfl) (de_var (pv 13) rfl) (dv_of de_int)) dc_nil)))))) rfl (by decide)))
 (dss_cons (os1 := [false, true, false, false, false, false, false, false, false, false, false, false, false, false, false])
 (ds_if (dt_not (dt_val (dcall (ks := [none, none]) (ok_f_law_same c 8) rfl hr (by decide) (by rfl) (dc_val (dcall (ks := [none, none, none, none, none, none]) (ok_judge_rent c) rfl hr (by decide) (by rfl) (dc_val (de_var (pv 2) rfl) (dc_val (de_var (pv 3) rfl) (dc_val (de_var (pv 5) rfl) (dc_val (de_ix (hr_cls hr) (by intro _ _; rfl) (de_var (pv 13) rfl) (dv_of de_int)) (dc_val (de_ix (hr_cls hr) (by intro _ _; rfl) (de_var (pv 13) rfl) (dv_of de_int)) (dc_val (de_of (de_call1 (fun h => pe_callTy call_dictD (by rfl) (c.free 34 rfl) (by first | exact boot_dict | exact PySem.boot_dict | exact PyProof.Rows.boot_dict | exact L2.boot_dict) h) dictD_ok dictD_nx (dv_of (de_ix (hr_cls hr) (by intro _ _; rfl) (de_var (pv 13) rfl) (dv_of de_int))))) dc_nil)))))) rfl (by decide)) (dc_val (de_var (pv 14) rfl) dc_nil)) rfl (by decide))))
 (dss_cons (os1 := [false, true, false, false, false, false, false, false, false, false, false, false, false, false, false]) (ds_ret rfl de_bl) dss_nil)
 dss_nil)
 dss_nil)))))
 (dss_cons (os1 := [false, false, false, false, false, false, false, false, false, false, false, false, false, false, false]) (ds_ret rfl de_bl) dss_nil))))))))))))))))
end
end DL.G
namespace DL.G
open PySem PySem.Spec L2
set_option autoImplicit false
/-! ### the drawing of the law -/
theorem mixed_ok (n p : Int) : ∃ v, rv (m_f_law_mixed [.int n, .int p]) = .ok (.int v) := by
  have m1 : mulD (.int n) (.int 48271) = .ok (.int (n * 48271)) := mulD_int (mul_small' (by decide))
  have m2 : mulD (.int p) (.int 69621) = .ok (.int (p * 69621)) := mulD_int (mul_small' (by decide))
  have q1 : ∀ x : Int, modD (.int x) (.int 618970019642690137449562111) = .ok (.int (x.fmod 618970019642690137449562111)) := fun x => modD_int (by decide)
  have q2 : ∀ x : Int, modD (.int x) (.int 162259276829213363391578010288127) = .ok (.int (x.fmod 162259276829213363391578010288127)) := fun x => modD_int (by decide)
  have sm1 : ∀ x : Int, (x.fmod 618970019642690137449562111).natAbs < 2 ^ 250 := fun x => by
    have := fmod_range (a := x) (m := 618970019642690137449562111) (by decide)
    omega
  have sm2 : ∀ x : Int, (x.fmod 162259276829213363391578010288127).natAbs < 2 ^ 250 := fun x => by
    have := fmod_range (a := x) (m := 162259276829213363391578010288127) (by decide)
    omega
  have m3 : ∀ x y : Int, mulD (.int (x.fmod 618970019642690137449562111)) (.int (y.fmod 618970019642690137449562111)) = .ok (.int (x.fmod 618970019642690137449562111 * y.fmod 618970019642690137449562111)) := fun x y => mulD_int (mul_mid (sm1 x) (sm1 y))
  have m4 : ∀ x : Int, mulD (.int 7) (.int x) = .ok (.int (7 * x)) := fun x => mulD_int (mul_small (by decide))
  have m5 : ∀ x y : Int, mulD (.int (x.fmod 162259276829213363391578010288127)) (.int (y.fmod 162259276829213363391578010288127)) = .ok (.int (x.fmod 162259276829213363391578010288127 * y.fmod 162259276829213363391578010288127)) := fun x y => mulD_int (mul_mid (sm2 x) (sm2 y))
  have m6 : ∀ x : Int, mulD (.int (x.fmod 162259276829213363391578010288127)) (.int 618970019642690137449562111) = .ok (.int (x.fmod 162259276829213363391578010288127 * 618970019642690137449562111)) := fun x => mulD_int (mul_mid (sm2 x) (by decide))
  unfold m_f_law_mixed
  rw [rv_fn]
  unfold b_f_law_mixed
  simp [m1, m2, q1, q2, m3, m4, m5, m6]
theorem rest_ok (ns : List Int) (p f : Int) : ∃ v, rv (m_f_law_rest [.lst (ns.map .int), .int p, .int f]) = .ok (.int v) := by
  have m1 : ∀ x : Int, mulD (.int 2) (.int x) = .ok (.int (2 * x)) := fun x => mulD_int (mul_small (by decide))
  have m2 : ∀ f : Int, mulD (.int f) (.int 1000003) = .ok (.int (f * 1000003)) := fun f => mulD_int (mul_small' (by decide))
  by_cases h0 : 0 < ns.length
  · have h1 : modD (.int p) (.int (ns.length : Int)) = .ok (.int (p.fmod ns.length)) := modD_int (by omega)
    obtain ⟨r1, r2⟩ := fmod_range (a := p) (m := (ns.length : Int)) (by omega)
    obtain ⟨k, hk⟩ : ∃ k : Nat, p.fmod ns.length = k := ⟨(p.fmod ns.length).toNat, by omega⟩
    have hkl : k < ns.length := by omega
    have h2 : ixD (.lst (ns.map .int)) (.int (k : Int)) = .ok (.int ns[k]) := ixL_k (by rw [List.getElem?_map, List.getElem?_eq_getElem hkl]; rfl)
    generalize ns[k] = z at h2
    unfold m_f_law_rest
    rw [rv_fn]
    unfold b_f_law_rest
    by_cases h3 : z < 0
    · by_cases c1 : f = 0
      · subst c1
        obtain ⟨v, hv⟩ := mixed_ok (1 - 2 * z) p
        by_cases c2 : p < ns.length
        · by_cases c3 : (1000000000000000000 : Int) ≤ 1 - 2 * z
          · exact ⟨1 - 2 * z - 1000000000000000000, by simp [h0, h1, hk, h2, h3, m1, m2, c2, c3]⟩
          · exact ⟨v, by simp [h0, h1, hk, h2, h3, m1, m2, c2, c3, hv]⟩
        · exact ⟨v, by simp [h0, h1, hk, h2, h3, m1, m2, c2, hv]⟩
      · obtain ⟨v, hv⟩ := mixed_ok (1 - 2 * z + f * 1000003) p
        exact ⟨v, by simp [h0, h1, hk, h2, h3, m1, m2, c1, hv]⟩
    · by_cases c1 : f = 0
      · subst c1
        obtain ⟨v, hv⟩ := mixed_ok z p
        by_cases c2 : p < ns.length
        · by_cases c3 : (1000000000000000000 : Int) ≤ z
          · exact ⟨z - 1000000000000000000, by simp [h0, h1, hk, h2, h3, m1, m2, c2, c3]⟩
          · exact ⟨v, by simp [h0, h1, hk, h2, h3, m1, m2, c2, c3, hv]⟩
        · exact ⟨v, by simp [h0, h1, hk, h2, h3, m1, m2, c2, hv]⟩
      · obtain ⟨v, hv⟩ := mixed_ok (z + f * 1000003) p
        exact ⟨v, by simp [h0, h1, hk, h2, h3, m1, m2, c1, hv]⟩
  · have e : ns = [] := List.eq_nil_of_length_eq_zero (by omega)
    subst e
    unfold m_f_law_rest
    rw [rv_fn]
    unfold b_f_law_rest
    by_cases c1 : f = 0
    · subst c1
      obtain ⟨v, hv⟩ := mixed_ok 0 p
      by_cases c2 : p < 0
      · exact ⟨v, by simp [m1, m2, c2, hv]⟩
      · exact ⟨v, by simp [m1, m2, c2, hv]⟩
    · obtain ⟨v, hv⟩ := mixed_ok (f * 1000003) p
      exact ⟨v, by simp [m1, m2, c1, hv]⟩
/-- the pool -/
def PoolOk (ns : List Int) (d : D) : Prop := ∃ p n c : Int, d = .lst [.lst (ns.map .int), .int p, .int n, .int c]
theorem rest_ev {ns : List Int} {p f : Int} {v : Int} (h : rv (m_f_law_rest [.lst (ns.map .int), .int p, .int f]) = .ok (.int v)) : True := trivial
theorem setL (ns : List Int) (p n c x : Int) :
    setD1 (.lst [.lst (ns.map .int), .int p, .int n, .int c]) (.int 1) (.int x) = .ok (.lst [.lst (ns.map .int), .int x, .int n, .int c]) ∧
    setD1 (.lst [.lst (ns.map .int), .int p, .int n, .int c]) (.int 2) (.int x) = .ok (.lst [.lst (ns.map .int), .int p, .int x, .int c]) ∧
    setD1 (.lst [.lst (ns.map .int), .int p, .int n, .int c]) (.int 3) (.int x) = .ok (.lst [.lst (ns.map .int), .int p, .int n, .int x]) := ⟨rfl, rfl, rfl⟩
theorem draw_ok {ns : List Int} {d : D} {L : Int} (h : PoolOk ns d) (hL : 0 < L) (hb : L.natAbs < 2 ^ 250) : ∃ v d', m_f_law_draw [d, .int L] = .ok (.int v, [d', .int L]) ∧ PoolOk ns d' ∧ 0 ≤ v ∧ v < L := by
  obtain ⟨p, n, c, rfl⟩ := h
  have q1 : ∀ x : Int, modD (.int x) (.int L) = .ok (.int (x.fmod L)) := fun x => modD_int (by omega)
  have q2 : ∀ x : Int, fdivD (.int x) (.int L) = .ok (.int (x.fdiv L)) := fun x => fdivD_int (div_mid (by omega) hb)
  have s1 := fun p n c x => (setL ns p n c x).1
  have s2 := fun p n c x => (setL ns p n c x).2.1
  have s3 := fun p n c x => (setL ns p n c x).2.2
  obtain ⟨v, hv⟩ := rest_ok ns p (c + 1)
  unfold m_f_law_draw fnM b_f_law_draw
  by_cases hn : n ≤ 1
  · refine ⟨v.fmod L, .lst [.lst (ns.map .int), .int p, .int (v.fdiv L), .int (c + 1)], ?_, ⟨_, _, _, rfl⟩, fmod_range hL⟩
    simp [hn, q1, q2, s1, s2, s3, hv, fin]
  · refine ⟨n.fmod L, .lst [.lst (ns.map .int), .int p, .int (n.fdiv L), .int c], ?_, ⟨_, _, _, rfl⟩, fmod_range hL⟩
    simp [hn, q1, q2, s1, s2, s3, hv, fin]
theorem next_ok {ns : List Int} {d : D} (h : PoolOk ns d) : ∃ d', m_f_law_next [d] = .ok (.non, [d']) ∧ PoolOk ns d' := by
  obtain ⟨p, n, c, rfl⟩ := h
  have s1 := fun p n c x => (setL ns p n c x).1
  have s2 := fun p n c x => (setL ns p n c x).2.1
  have s3 := fun p n c x => (setL ns p n c x).2.2
  obtain ⟨v, hv⟩ := rest_ok ns (p + 1) 0
  unfold m_f_law_next fnM b_f_law_next
  refine ⟨.lst [.lst (ns.map .int), .int (p + 1), .int v, .int 0], ?_, ⟨_, _, _, rfl⟩⟩
  simp [s1, s2, s3, hv, fin]
theorem pool_ok (ns : List Int) : ∃ d, rv (m_f_law_pool [.lst (ns.map .int)]) = .ok d ∧ PoolOk ns d := by
  obtain ⟨v, hv⟩ := rest_ok ns 0 0
  refine ⟨.lst [.lst (ns.map .int), .int 0, .int v, .int 0], ?_, ⟨_, _, _, rfl⟩⟩
  unfold m_f_law_pool
  rw [rv_fn]
  unfold b_f_law_pool
  simp [hv]
theorem pick_ok {ns : List Int} {d : D} {xs : List D} (h : PoolOk ns d) (h0 : 0 < xs.length) (hl : xs.length < 2 ^ 60) : ∃ x d', m_f_law_pick [d, .lst xs] = .ok (x, [d', .lst xs]) ∧ PoolOk ns d' ∧ x ∈ xs := by
  obtain ⟨v, d', e1, e2, e3, e4⟩ := draw_ok (L := (xs.length : Int)) h (by omega) (by omega)
  obtain ⟨k, rfl⟩ : ∃ k : Nat, v = k := ⟨v.toNat, by omega⟩
  have hk : k < xs.length := by omega
  refine ⟨xs[k], d', ?_, e2, List.getElem_mem hk⟩
  unfold m_f_law_pick fnM b_f_law_pick
  simp [e1, ixL_k (List.getElem?_eq_getElem hk), fin]
end DL.G
namespace DL.G
open PySem PySem.Spec L2
set_option autoImplicit false
/-! ### fractions -/
def frD (q : Rat) : D := .tup [.int q.num, .int (q.den : Int)]
def Bd (b : Nat) (q : Rat) : Prop := q.num.natAbs < 2 ^ b ∧ q.den < 2 ^ b
theorem Bd.mono {b c : Nat} {q : Rat} (h : b ≤ c) (k : Bd b q) : Bd c q := by
  have := Nat.pow_le_pow_right (n := 2) (by decide) h
  exact ⟨by have := k.1; omega, by have := k.2; omega⟩
theorem dvd_fdiv {p g : Int} (h : g ∣ p) (hg : 0 < g) : p.fdiv g = p / g := by
  exact Int.fdiv_eq_ediv_of_nonneg p (by omega)
theorem frac_num {p q : Int} (hq : 0 < q) : (Rat.divInt p q).num = p / (Int.gcd p q : Int) := by
  rw [Rat.num_divInt, Int.sign_eq_one_of_pos hq, Int.one_mul, Int.gcd_comm]
theorem frac_den {p q : Int} (hq : 0 < q) : ((Rat.divInt p q).den : Int) = q / (Int.gcd p q : Int) := by
  rw [Rat.den_divInt, if_neg (by omega), Int.gcd_comm]
  rw [Int.natCast_ediv]
  congr 1
  omega
theorem gcd_pos' {p q : Int} (hq : 0 < q) : 0 < (Int.gcd p q : Int) := by
  have : 0 < Int.gcd p q := Int.gcd_pos_of_ne_zero_right p (by omega)
  omega
theorem gcd_le' {p q : Int} (hq : 0 < q) : (Int.gcd p q : Int) ≤ q := by
  have := Int.gcd_le_natAbs_right p (b := q) (by omega)
  omega
theorem frac_bd {p q : Int} {b : Nat} (hq : 0 < q) (h1 : p.natAbs < 2 ^ b) (h2 : q.natAbs < 2 ^ b) : Bd b (Rat.divInt p q) := by
  have g0 := gcd_pos' (p := p) hq
  constructor
  · rw [frac_num hq]
    have : (p / (Int.gcd p q : Int)).natAbs ≤ p.natAbs := by
      rw [Int.natAbs_ediv_of_dvd (Int.gcd_dvd_left p q)]
      exact Nat.div_le_self _ _
    omega
  · have e := frac_den (p := p) hq
    have : q / (Int.gcd p q : Int) ≤ q := Int.ediv_le_self _ (by omega)
    have h3 : ((2 ^ b : Nat) : Int) > q := by omega
    have : ((Rat.divInt p q).den : Int) < ((2 ^ b : Nat) : Int) := by omega
    exact Int.ofNat_lt.mp this
theorem frac_ok {p q : Int} (hq : 0 < q) (h2 : q.natAbs < 2 ^ 250) : rv (m_frac [.int p, .int q]) = .ok (frD (Rat.divInt p q)) := by
  have g0 := gcd_pos' (p := p) hq
  have g1 := gcd_le' (p := p) hq
  have h : okDiv (Int.gcd p q) = true := div_mid (by omega) (by omega)
  unfold m_frac
  rw [rv_fn]
  unfold b_frac
  have hn : ¬ q < 0 := by omega
  have e1 : p.fdiv (Int.gcd p q : Int) = (Rat.divInt p q).num := by rw [frac_num hq, Int.fdiv_eq_ediv_of_nonneg _ (by omega)]
  have e2 : q.fdiv (Int.gcd p q : Int) = ((Rat.divInt p q).den : Int) := by rw [frac_den hq, Int.fdiv_eq_ediv_of_nonneg _ (by omega)]
  simp [fdivD_int h, hn, e1, e2, frD]
/-! Euclid's way -/
theorem gcd_steps : ∀ (b : Nat) (x y : Int) (z : Option D) (ds : List D), 0 ≤ x → 0 ≤ y → y < 2 ^ b → 2 * b + 1 ≤ ds.length → ∃ z', forM (gSet 2) l_f_law_gcd_1 ds [some (.int x), some (.int y), z] = .ok (.nx, [some (.int (Int.gcd x y)), some (.int 0), z']) := by
  have stop : ∀ (x : Int) (z : Option D) (ds : List D), 0 ≤ x → 0 < ds.length → ∃ z', forM (gSet 2) l_f_law_gcd_1 ds [some (.int x), some (.int 0), z] = .ok (.nx, [some (.int (Int.gcd x 0)), some (.int 0), z']) := fun x z ds hx hd => by
    cases ds with
    | nil => simp at hd
    | cons d ds =>
      refine ⟨some d, ?_⟩
      unfold forM l_f_law_gcd_1
      have e : ((x.natAbs : Nat) : Int) = x := by omega
      simp [e]
  have step : ∀ (x y : Int) (z : Option D) (d : D) (ds : List D), 0 < y → forM (gSet 2) l_f_law_gcd_1 (d :: ds) [some (.int x), some (.int y), z] = forM (gSet 2) l_f_law_gcd_1 ds [some (.int y), some (.int (x.fmod y)), some d] := fun x y z d ds hy => by
    have q1 : modD (.int x) (.int y) = .ok (.int (x.fmod y)) := modD_int (by omega)
    have hn : ¬ y = 0 := by omega
    rw [forM]
    unfold l_f_law_gcd_1
    simp [q1, hn]
  have gs : ∀ x y : Int, 0 ≤ x → 0 < y → Int.gcd y (x.fmod y) = Int.gcd x y := fun x y hx hy => by
    rw [Int.fmod_eq_emod_of_nonneg x (by omega)]
    obtain ⟨a, rfl⟩ : ∃ a : Nat, x = a := ⟨x.toNat, by omega⟩
    obtain ⟨c, rfl⟩ : ∃ c : Nat, y = c := ⟨y.toNat, by omega⟩
    show Nat.gcd c (((a : Int) % (c : Int)).natAbs) = Nat.gcd a c
    have e : ((a : Int) % (c : Int)).natAbs = a % c := by omega
    rw [e, Nat.gcd_comm a c, Nat.gcd_rec c a, Nat.gcd_comm]
  intro b
  induction b with
  | zero =>
    intro x y z ds hx hy hb hl
    have : y = 0 := by omega
    subst this
    exact stop x z ds hx (by omega)
  | succ b ih =>
    intro x y z ds hx hy hb hl
    by_cases h0 : y = 0
    · subst h0
      exact stop x z ds hx (by omega)
    · cases ds with
      | nil => simp at hl
      | cons d ds =>
        rw [step x y z d ds (by omega)]
        obtain ⟨r0, r1⟩ := fmod_range (a := x) (m := y) (by omega)
        by_cases h1 : x.fmod y = 0
        · obtain ⟨z', hz⟩ := stop y (some d) ds hy (by simp at hl; omega)
          refine ⟨z', ?_⟩
          rw [h1, hz]
          rw [← gs x y hx (by omega), h1]
        · cases ds with
          | nil => simp at hl
          | cons d2 ds =>
            rw [step y (x.fmod y) (some d) d2 ds (by omega)]
            obtain ⟨s0, s1⟩ := fmod_range (a := y) (m := x.fmod y) (by omega)
            have hh : 2 * y.fmod (x.fmod y) < y := by
              have e := Int.fmod_add_mul_fdiv y (x.fmod y)
              have hd : 1 ≤ y.fdiv (x.fmod y) := by
                rw [Int.fdiv_eq_ediv_of_nonneg _ (by omega)]
                exact (Int.le_ediv_iff_mul_le (by omega)).mpr (by omega)
              have : x.fmod y * 1 ≤ x.fmod y * y.fdiv (x.fmod y) := Int.mul_le_mul_of_nonneg_left hd (by omega)
              omega
            obtain ⟨z', hz⟩ := ih (x.fmod y) (y.fmod (x.fmod y)) (some d2) ds (by omega) s0 (by rw [Int.pow_succ] at hb; omega) (by simp at hl; omega)
            refine ⟨z', ?_⟩
            rw [hz]
            rw [gs y (x.fmod y) hy (by omega), gs x y hx (by omega)]
theorem lgcd_ok {x y : Int} (hx : 0 ≤ x) (hy : 0 ≤ y) (hb : y < 2 ^ 250) : rv (m_f_law_gcd [.int x, .int y]) = .ok (.int (Int.gcd x y)) := by
  obtain ⟨z', hz⟩ := gcd_steps 250 x y none (rngL 0 20000) hx hy hb (by unfold rngL; simp)
  unfold m_f_law_gcd
  rw [rv_fn]
  unfold b_f_law_gcd
  have e : rng1D (.int 20000) = .ok (rngL 0 20000) := by simp [rng1D]
  simp [e, hz]
theorem lratio_ok {p q : Int} (hq : 0 < q) (h2 : q.natAbs < 2 ^ 250) : rv (m_f_law_ratio [.int p, .int q]) = .ok (frD (Rat.divInt p q)) := by
  have g0 := gcd_pos' (p := p) hq
  have g1 := gcd_le' (p := p) hq
  have h : okDiv (Int.gcd p q) = true := div_mid (by omega) (by omega)
  have hg : rv (m_f_law_gcd [.int (if p < 0 then -p else p), .int q]) = .ok (.int (Int.gcd p q)) := by
    rw [lgcd_ok (by split <;> omega) (by omega) (by omega)]
    congr 2
    split
    · rw [Int.neg_gcd]
    · rfl
  unfold m_f_law_ratio
  rw [rv_fn]
  unfold b_f_law_ratio
  have hn : ¬ q < 0 := by omega
  have e1 : p.fdiv (Int.gcd p q : Int) = (Rat.divInt p q).num := by rw [frac_num hq, Int.fdiv_eq_ediv_of_nonneg _ (by omega)]
  have e2 : q.fdiv (Int.gcd p q : Int) = ((Rat.divInt p q).den : Int) := by rw [frac_den hq, Int.fdiv_eq_ediv_of_nonneg _ (by omega)]
  simp [fdivD_int h, hn, e1, e2, frD, hg]
/-! sums, products, quotients, order -/
theorem bmul {i j : Int} {a b : Nat} (hi : i.natAbs < 2 ^ a) (hj : j.natAbs < 2 ^ b) : (i * j).natAbs < 2 ^ (a + b) := by
  rw [Int.natAbs_mul, Nat.pow_add]
  exact Nat.mul_lt_mul_of_lt_of_lt hi hj
theorem p64 {i : Int} {b : Nat} (h : i.natAbs < 2 ^ b) (hb : b ≤ 60) : i.natAbs < 2 ^ 64 := by
  have := Nat.pow_le_pow_right (n := 2) (by decide) (show b ≤ 64 by omega)
  omega
theorem p250 {i : Int} {b : Nat} (h : i.natAbs < 2 ^ b) (hb : b ≤ 250) : i.natAbs < 2 ^ 250 := by
  have := Nat.pow_le_pow_right (n := 2) (by decide) hb
  omega
theorem denI (a : Rat) : 0 < (a.den : Int) := by have := a.den_pos; omega
theorem Bd.d {b : Nat} {a : Rat} (h : Bd b a) : ((a.den : Nat) : Int).natAbs < 2 ^ b := by have := h.2; omega
theorem num_pos' {b : Rat} (h : 0 < b) : 0 < b.num := by
  have := (Rat.lt_iff 0 b).mp h
  simpa using this
theorem mul_divInt (a b : Rat) : Rat.divInt (a.num * b.num) (a.den * b.den) = a * b := by
  have := Rat.divInt_mul_divInt a.num b.num (d₁ := a.den) (d₂ := b.den)
  rw [Rat.num_divInt_den, Rat.num_divInt_den] at this
  rw [this]
theorem add_divInt (a b : Rat) : Rat.divInt (a.num * b.den + b.num * a.den) (a.den * b.den) = a + b := by
  have := Rat.divInt_add_divInt a.num b.num (d₁ := a.den) (d₂ := b.den) (by have := denI a; omega) (by have := denI b; omega)
  rw [Rat.num_divInt_den, Rat.num_divInt_den] at this
  rw [this]
theorem div_divInt (a b : Rat) : Rat.divInt (a.num * b.den) (a.den * b.num) = a / b := by
  rw [Rat.div_def]
  have e : b⁻¹ = Rat.divInt b.den b.num := by
    have := Rat.inv_divInt b.num b.den
    rw [Rat.num_divInt_den] at this
    exact this
  rw [e]
  have := Rat.divInt_mul_divInt a.num b.den (d₁ := a.den) (d₂ := b.num)
  rw [Rat.num_divInt_den] at this
  rw [this]
theorem times_raw (x y u v z t : Int) (c : D) (m1 : mulD (.int x) (.int u) = .ok (.int z)) (m2 : mulD (.int y) (.int v) = .ok (.int t)) (f : rv (m_frac [.int z, .int t]) = .ok c) : rv (m_times [.tup [.int x, .int y], .tup [.int u, .int v]]) = .ok c := by
  unfold m_times
  rw [rv_fn]
  unfold b_times
  simp [m1, m2, f]
theorem lmul_raw (x y u v z t : Int) (c : D) (m1 : mulD (.int x) (.int u) = .ok (.int z)) (m2 : mulD (.int y) (.int v) = .ok (.int t)) (f : rv (m_f_law_ratio [.int z, .int t]) = .ok c) : rv (m_f_law_mul [.tup [.int x, .int y], .tup [.int u, .int v]]) = .ok c := by
  unfold m_f_law_mul
  rw [rv_fn]
  unfold b_f_law_mul
  simp [m1, m2, f]
theorem over_raw (x y u v z t : Int) (c : D) (m1 : mulD (.int x) (.int v) = .ok (.int z)) (m2 : mulD (.int y) (.int u) = .ok (.int t)) (f : rv (m_frac [.int z, .int t]) = .ok c) : rv (m_over [.tup [.int x, .int y], .tup [.int u, .int v]]) = .ok c := by
  unfold m_over
  rw [rv_fn]
  unfold b_over
  simp [m1, m2, f]
theorem lover_raw (x y u v z t : Int) (c : D) (m1 : mulD (.int x) (.int v) = .ok (.int z)) (m2 : mulD (.int y) (.int u) = .ok (.int t)) (f : rv (m_f_law_ratio [.int z, .int t]) = .ok c) : rv (m_f_law_over [.tup [.int x, .int y], .tup [.int u, .int v]]) = .ok c := by
  unfold m_f_law_over
  rw [rv_fn]
  unfold b_f_law_over
  simp [m1, m2, f]
theorem plus_raw (x y u v z t r : Int) (c : D) (m1 : mulD (.int x) (.int v) = .ok (.int z)) (m2 : mulD (.int u) (.int y) = .ok (.int r)) (m3 : mulD (.int y) (.int v) = .ok (.int t)) (f : rv (m_frac [.int (z + r), .int t]) = .ok c) : rv (m_plus [.tup [.int x, .int y], .tup [.int u, .int v]]) = .ok c := by
  unfold m_plus
  rw [rv_fn]
  unfold b_plus
  simp [m1, m2, m3, f]
theorem ladd_raw (x y u v z t r : Int) (c : D) (m1 : mulD (.int x) (.int v) = .ok (.int z)) (m2 : mulD (.int u) (.int y) = .ok (.int r)) (m3 : mulD (.int y) (.int v) = .ok (.int t)) (f : rv (m_f_law_ratio [.int (z + r), .int t]) = .ok c) : rv (m_f_law_add [.tup [.int x, .int y], .tup [.int u, .int v]]) = .ok c := by
  unfold m_f_law_add
  rw [rv_fn]
  unfold b_f_law_add
  simp [m1, m2, m3, f]
theorem less_raw (x y u v z r : Int) (m1 : mulD (.int x) (.int v) = .ok (.int z)) (m2 : mulD (.int u) (.int y) = .ok (.int r)) : rv (m_less [.tup [.int x, .int y], .tup [.int u, .int v]]) = .ok (.bl (decide (z < r))) := by
  unfold m_less
  rw [rv_fn]
  unfold b_less
  simp [m1, m2]
theorem lless_raw (x y u v z r : Int) (m1 : mulD (.int x) (.int v) = .ok (.int z)) (m2 : mulD (.int u) (.int y) = .ok (.int r)) : rv (m_f_law_less [.tup [.int x, .int y], .tup [.int u, .int v]]) = .ok (.bl (decide (z < r))) := by
  unfold m_f_law_less
  rw [rv_fn]
  unfold b_f_law_less
  simp [m1, m2]
theorem least_raw (x y : D) (k : Bool) (f : rv (m_less [y, x]) = .ok (.bl k)) : rv (m_least [x, y]) = .ok (if k = true then y else x) := by
  unfold m_least
  rw [rv_fn]
  unfold b_least
  cases k <;> simp [f]
theorem llow_raw (x y : D) (k : Bool) (f : rv (m_f_law_less [y, x]) = .ok (.bl k)) : rv (m_f_law_low [x, y]) = .ok (if k = true then y else x) := by
  unfold m_f_law_low
  rw [rv_fn]
  unfold b_f_law_low
  cases k <;> simp [f]
section
variable {a b : Rat} {i j : Nat} (ha : Bd i a) (hb : Bd j b)
include ha hb
theorem mul_bd : Bd (i + j) (a * b) := by
  rw [← mul_divInt]
  exact frac_bd (Int.mul_pos (denI a) (denI b)) (bmul ha.1 hb.1) (bmul ha.d hb.d)
theorem add_bd : Bd (i + j + 1) (a + b) := by
  rw [← add_divInt]
  refine frac_bd (Int.mul_pos (denI a) (denI b)) ?_ ?_
  · have h1 := bmul ha.1 hb.d
    have h2 := bmul hb.1 ha.d
    rw [Nat.add_comm j i] at h2
    rw [Nat.pow_succ]
    have := Int.natAbs_add_le (a.num * b.den) (b.num * a.den)
    omega
  · have h1 := bmul ha.d hb.d
    rw [Nat.pow_succ]
    omega
theorem div_bd (h0 : 0 < b) : Bd (i + j) (a / b) := by
  have hn : 0 < b.num := num_pos' h0
  rw [← div_divInt]
  exact frac_bd (Int.mul_pos (denI a) hn) (bmul ha.1 hb.d) (bmul ha.d hb.1)
variable (hi : i ≤ 60) (hj : j ≤ 60)
include hi hj
theorem times_ok : rv (m_times [frD a, frD b]) = .ok (frD (a * b)) := by
  have m1 : mulD (.int a.num) (.int b.num) = .ok (.int (a.num * b.num)) := mulD_int (mul_small (p64 ha.1 hi))
  have m2 : mulD (.int a.den) (.int b.den) = .ok (.int (a.den * b.den)) := mulD_int (mul_small (p64 ha.d hi))
  have f := frac_ok (p := a.num * b.num) (q := a.den * b.den) (Int.mul_pos (denI a) (denI b)) (p250 (bmul ha.d hb.d) (by omega))
  rw [mul_divInt] at f
  exact times_raw _ _ _ _ _ _ _ m1 m2 f
theorem lmul_ok : rv (m_f_law_mul [frD a, frD b]) = .ok (frD (a * b)) := by
  have m1 : mulD (.int a.num) (.int b.num) = .ok (.int (a.num * b.num)) := mulD_int (mul_small (p64 ha.1 hi))
  have m2 : mulD (.int a.den) (.int b.den) = .ok (.int (a.den * b.den)) := mulD_int (mul_small (p64 ha.d hi))
  have f := lratio_ok (p := a.num * b.num) (q := a.den * b.den) (Int.mul_pos (denI a) (denI b)) (p250 (bmul ha.d hb.d) (by omega))
  rw [mul_divInt] at f
  exact lmul_raw _ _ _ _ _ _ _ m1 m2 f
theorem plus_ok : rv (m_plus [frD a, frD b]) = .ok (frD (a + b)) := by
  have m1 : mulD (.int a.num) (.int b.den) = .ok (.int (a.num * b.den)) := mulD_int (mul_small (p64 ha.1 hi))
  have m2 : mulD (.int b.num) (.int a.den) = .ok (.int (b.num * a.den)) := mulD_int (mul_small (p64 hb.1 hj))
  have m3 : mulD (.int a.den) (.int b.den) = .ok (.int (a.den * b.den)) := mulD_int (mul_small (p64 ha.d hi))
  have f := frac_ok (p := a.num * b.den + b.num * a.den) (q := a.den * b.den) (Int.mul_pos (denI a) (denI b)) (p250 (bmul ha.d hb.d) (by omega))
  rw [add_divInt] at f
  exact plus_raw _ _ _ _ _ _ _ _ m1 m2 m3 f
theorem ladd_ok : rv (m_f_law_add [frD a, frD b]) = .ok (frD (a + b)) := by
  have m1 : mulD (.int a.num) (.int b.den) = .ok (.int (a.num * b.den)) := mulD_int (mul_small (p64 ha.1 hi))
  have m2 : mulD (.int b.num) (.int a.den) = .ok (.int (b.num * a.den)) := mulD_int (mul_small (p64 hb.1 hj))
  have m3 : mulD (.int a.den) (.int b.den) = .ok (.int (a.den * b.den)) := mulD_int (mul_small (p64 ha.d hi))
  have f := lratio_ok (p := a.num * b.den + b.num * a.den) (q := a.den * b.den) (Int.mul_pos (denI a) (denI b)) (p250 (bmul ha.d hb.d) (by omega))
  rw [add_divInt] at f
  exact ladd_raw _ _ _ _ _ _ _ _ m1 m2 m3 f
theorem over_ok (h0 : 0 < b) : rv (m_over [frD a, frD b]) = .ok (frD (a / b)) := by
  have hn : 0 < b.num := num_pos' h0
  have m1 : mulD (.int a.num) (.int b.den) = .ok (.int (a.num * b.den)) := mulD_int (mul_small (p64 ha.1 hi))
  have m2 : mulD (.int a.den) (.int b.num) = .ok (.int (a.den * b.num)) := mulD_int (mul_small (p64 ha.d hi))
  have f := frac_ok (p := a.num * b.den) (q := a.den * b.num) (Int.mul_pos (denI a) hn) (p250 (bmul ha.d hb.1) (by omega))
  rw [div_divInt] at f
  exact over_raw _ _ _ _ _ _ _ m1 m2 f
theorem lover_ok (h0 : 0 < b) : rv (m_f_law_over [frD a, frD b]) = .ok (frD (a / b)) := by
  have hn : 0 < b.num := num_pos' h0
  have m1 : mulD (.int a.num) (.int b.den) = .ok (.int (a.num * b.den)) := mulD_int (mul_small (p64 ha.1 hi))
  have m2 : mulD (.int a.den) (.int b.num) = .ok (.int (a.den * b.num)) := mulD_int (mul_small (p64 ha.d hi))
  have f := lratio_ok (p := a.num * b.den) (q := a.den * b.num) (Int.mul_pos (denI a) hn) (p250 (bmul ha.d hb.1) (by omega))
  rw [div_divInt] at f
  exact lover_raw _ _ _ _ _ _ _ m1 m2 f
theorem less_ok : rv (m_less [frD a, frD b]) = .ok (.bl (decide (a < b))) := by
  have m1 : mulD (.int a.num) (.int b.den) = .ok (.int (a.num * b.den)) := mulD_int (mul_small (p64 ha.1 hi))
  have m2 : mulD (.int b.num) (.int a.den) = .ok (.int (b.num * a.den)) := mulD_int (mul_small (p64 hb.1 hj))
  exact (less_raw _ _ _ _ _ _ m1 m2).trans (by rw [show decide (a.num * b.den < b.num * a.den) = decide (a < b) from decide_eq_decide.mpr (Rat.lt_iff a b).symm])
theorem lless_ok : rv (m_f_law_less [frD a, frD b]) = .ok (.bl (decide (a < b))) := by
  have m1 : mulD (.int a.num) (.int b.den) = .ok (.int (a.num * b.den)) := mulD_int (mul_small (p64 ha.1 hi))
  have m2 : mulD (.int b.num) (.int a.den) = .ok (.int (b.num * a.den)) := mulD_int (mul_small (p64 hb.1 hj))
  exact (lless_raw _ _ _ _ _ _ m1 m2).trans (by rw [show decide (a.num * b.den < b.num * a.den) = decide (a < b) from decide_eq_decide.mpr (Rat.lt_iff a b).symm])
end
section
variable {a b : Rat} {i j : Nat} (ha : Bd i a) (hb : Bd j b) (hi : i ≤ 60) (hj : j ≤ 60)
include ha hb hi hj
theorem least_ok : rv (m_least [frD a, frD b]) = .ok (frD (if b < a then b else a)) := by
  have f := less_ok hb ha hj hi
  exact (least_raw _ _ _ f).trans (by by_cases h : b < a <;> simp [h])
theorem llow_ok : rv (m_f_law_low [frD a, frD b]) = .ok (frD (if b < a then b else a)) := by
  have f := lless_ok hb ha hj hi
  exact (llow_raw _ _ _ f).trans (by by_cases h : b < a <;> simp [h])
end
theorem int_fr (m : Int) : D.tup [.int m, .int 1] = frD (m : Rat) := by
  unfold frD
  simp
theorem int_bd {m : Int} {b : Nat} (h : m.natAbs < 2 ^ b) (h1 : 1 ≤ b) : Bd b (m : Rat) := by
  constructor
  · simpa using h
  · have := Nat.pow_le_pow_right (n := 2) (by decide) h1
    simp; omega
end DL.G
namespace DL.G
open PySem PySem.Spec L2
set_option autoImplicit false
/-! ### a value is the same as itself -/
def PlD : Nat → D → Prop
  | 0, _ => False
  | _ + 1, .int _ => True
  | _ + 1, .bl _ => True
  | _ + 1, .non => True
  | n + 1, .lst xs => xs.length ≤ 1000 ∧ ∀ x ∈ xs, PlD n x
  | n + 1, .tup xs => xs.length ≤ 1000 ∧ ∀ x ∈ xs, PlD n x
  | n + 1, .dic false kvs => kvs.length ≤ 1000 ∧ ∀ p ∈ kvs, (∃ i : Int, p.1 = .int i) ∧ lookD kvs p.1 = some p.2 ∧ PlD n p.2
  | _ + 1, _ => False
theorem size40 {n : Nat} (h : n ≤ 1000) : n ≤ sizeLine := by rw [sizeLine_eq]; omega
theorem same_int (n : Nat) (i : Int) : rv (m_f_law_same (n + 1) [(.int i), (.int i)]) = .ok (.bl true) := by
    rw [m_f_law_same, rv_fn]; unfold b_f_law_same
    simp [isC]
theorem same_bl (n : Nat) (b : Bool) : rv (m_f_law_same (n + 1) [(.bl b), (.bl b)]) = .ok (.bl true) := by
    rw [m_f_law_same, rv_fn]; unfold b_f_law_same
    cases b <;> simp [isC]
theorem same_non (n : Nat)  : rv (m_f_law_same (n + 1) [.non, .non]) = .ok (.bl true) := by
    rw [m_f_law_same, rv_fn]; unfold b_f_law_same
    simp [isC]
theorem same_key (n : Nat) (c : D) (L : Int) (hL : lenD c = .ok (.int L)) (hr : rng1D (.int L) = .ok (rngL 0 L)) (hs : L.toNat ≤ sizeLine)
    (hk : ∀ k : Nat, (k : Int) < L → ∃ x, ixD c (.int (0 + (k : Int))) = .ok x ∧ rv (m_f_law_same n [x, x]) = .ok (.bl true)) :
    eComp [3] (e1 rng1D (e1 lenD (eVar 1))) (gSet 3) eYes (eCall [none, none] (m_f_law_same n) (eCons (e2 ixD (eVar 0) (eVar 3)) (eCons (e2 ixD (eVar 1) (eVar 3)) eNil))) [some c, some c, none, none] = .ok (.lst ((List.range (L - 0).toNat).map fun _ => .bl true), [some c, some c, none, none]) := by
  obtain ⟨ρ', q1, q2⟩ := compM_map (vs := [3]) (t := gSet 3) (e := eCall [none, none] (m_f_law_same n) (eCons (e2 ixD (eVar 0) (eVar 3)) (eCons (e2 ixD (eVar 1) (eVar 3)) eNil))) (fun ρ => ρ = [some c, some c, none, none]) (fun _ => .bl true) (rngL 0 L) 0 [some c, some c, none, none] [] rfl (by unfold rngL; rw [List.length_map, List.length_range, List.length_nil, Int.sub_zero]; omega) fun k d ρ hk' hI => by
    subst hI
    have hl := (List.getElem?_eq_some_iff.mp hk').1
    unfold rngL at hk' hl
    rw [List.length_map, List.length_range] at hl
    rw [List.getElem?_map, List.getElem?_range hl] at hk'
    cases hk'
    obtain ⟨x, ix, ih⟩ := hk k (by omega)
    obtain ⟨z, hz⟩ : ∃ z, 0 + (k : Int) = z := ⟨_, rfl⟩
    rw [hz] at ix
    show ∃ ρ1 ρ2, gSet 3 (.int (0 + (k : Int))) _ = _ ∧ _
    rw [hz]
    refine ⟨_, [some c, some c, none, some (.int z)], rfl, ?_, rfl⟩
    simp [ix, ih]
  subst q2
  unfold eComp
  simp only [ap_e1, ap_var, List.getElem?_cons_succ, List.getElem?_cons_zero, hL, ap_liftOk, hr]
  rw [show wipeE [some c, some c, none, none] [3] = [some c, some c, none, none] from rfl, q1]
  unfold rngL
  rw [List.length_map, List.length_range]
  rfl
theorem same_seq (n : Nat) (c : D) (L : Int) (p : Bool) (hL : lenD c = .ok (.int L)) (hr : rng1D (.int L) = .ok (rngL 0 L)) (hs : L.toNat ≤ sizeLine) (i1 : isiD "list" c = .ok (.bl p)) (i2 : isiD "tuple" c = .ok (.bl (!p))) (i3 : isiD "dict" c = .ok (.bl false))
    (hk : ∀ k : Nat, (k : Int) < L → ∃ x, ixD c (.int (0 + (k : Int))) = .ok x ∧ rv (m_f_law_same n [x, x]) = .ok (.bl true)) : rv (m_f_law_same (n + 1) [c, c]) = .ok (.bl true) := by
  have key := same_key n c L hL hr hs hk
  generalize (L - 0).toNat = N at key
  rw [m_f_law_same, rv_fn]
  unfold b_f_law_same
  cases p <;> simp [key, all_rep, i1, i2, i3, hL]
theorem same_lst (n : Nat) (xs : List D) (h1 : xs.length ≤ 1000) (ih0 : ∀ x ∈ xs, rv (m_f_law_same n [x, x]) = .ok (.bl true)) : rv (m_f_law_same (n + 1) [(.lst xs), (.lst xs)]) = .ok (.bl true) :=
  same_seq n _ xs.length true rfl (rng1_ok (by omega)) (by have := size40 h1; omega) (isi_lst_list _) (isi_lst_tuple _) (isi_lst_dict _) fun k hk => by
    have hx : k < xs.length := by omega
    refine ⟨xs[k], ?_, ih0 _ (List.getElem_mem hx)⟩
    rw [Int.zero_add]
    exact ixL_k (List.getElem?_eq_getElem hx)
theorem same_tup (n : Nat) (xs : List D) (h1 : xs.length ≤ 1000) (ih0 : ∀ x ∈ xs, rv (m_f_law_same n [x, x]) = .ok (.bl true)) : rv (m_f_law_same (n + 1) [(.tup xs), (.tup xs)]) = .ok (.bl true) :=
  same_seq n _ xs.length false rfl (rng1_ok (by omega)) (by have := size40 h1; omega) (isi_tup_list _) (isi_tup_tuple _) (isi_tup_dict _) fun k hk => by
    have hx : k < xs.length := by omega
    refine ⟨xs[k], ?_, ih0 _ (List.getElem_mem hx)⟩
    rw [Int.zero_add]
    exact ixT_k (List.getElem?_eq_getElem hx)
theorem same_dic (n : Nat) (kvs : List (D × D)) (h1 : kvs.length ≤ 1000) (h2 : ∀ p ∈ kvs, (∃ i : Int, p.1 = .int i) ∧ lookD kvs p.1 = some p.2 ∧ rv (m_f_law_same n [p.2, p.2]) = .ok (.bl true)) : rv (m_f_law_same (n + 1) [(.dic false kvs), (.dic false kvs)]) = .ok (.bl true) := by
    have key : eCompA [2] 1 (gSet 2) eYes (eBl (eAnd (e2 inD (eVar 2) (eVar 0)) (eAsB (eCall [none, none] (m_f_law_same n) (eCons (e2 ixD (eVar 0) (eVar 2)) (eCons (e2 ixD (eVar 1) (eVar 2)) eNil)))))) [some (.dic false kvs), some (.dic false kvs), none, none] = .ok (.lst ((List.range kvs.length).map fun _ => .bl true), [some (.dic false kvs), some (.dic false kvs), none, none]) := by
      obtain ⟨ρ', q1, q2⟩ := compM_map (vs := [2]) (t := gSet 2) (e := eBl (eAnd (e2 inD (eVar 2) (eVar 0)) (eAsB (eCall [none, none] (m_f_law_same n) (eCons (e2 ixD (eVar 0) (eVar 2)) (eCons (e2 ixD (eVar 1) (eVar 2)) eNil)))))) (fun ρ => ρ = [some (.dic false kvs), some (.dic false kvs), none, none]) (fun _ => .bl true) (kvs.map (·.1)) 0 [some (.dic false kvs), some (.dic false kvs), none, none] [] rfl (by simp; exact size40 h1) fun k d ρ hk hI => by
        subst hI
        rw [List.getElem?_map] at hk
        obtain ⟨p, hp, e⟩ := Option.map_eq_some_iff.mp hk
        subst e
        obtain ⟨⟨i, hi⟩, h2, ih⟩ := h2 p (List.mem_of_getElem? hp)
        rw [hi] at h2 ⊢
        have i1 : inD (.int i) (.dic false kvs) = .ok true := by simp [inD, asKey, h2]
        have i2 : ixD (.dic false kvs) (.int i) = .ok p.2 := by simp [ixD, asKey, h2]
        refine ⟨_, [some (.dic false kvs), some (.dic false kvs), some (.int i), none], rfl, ?_, rfl⟩
        simp [i1, i2, ih]
      subst q2
      unfold eCompA eComp
      simp only [List.getElem?_cons_succ, List.getElem?_cons_zero, ap_e1, ap_var, gKeys, ap_liftOk]
      rw [show wipeE [some (D.dic false kvs), some (.dic false kvs), none, none] [2] = [some (.dic false kvs), some (.dic false kvs), none, none] from rfl, q1]
      simp [restE]
    rw [m_f_law_same, rv_fn]; unfold b_f_law_same
    simp [key, all_rep]
theorem same_refl : ∀ (n : Nat) (d : D), PlD n d → rv (m_f_law_same n [d, d]) = .ok (.bl true) := by
  intro n
  induction n with
  | zero => intro d h; exact h.elim
  | succ n ih =>
    intro d h
    cases d with
    | int i => exact same_int n i
    | bl b => exact same_bl n b
    | non => exact same_non n
    | lst xs => exact same_lst n xs h.1 fun x hx => ih x (h.2 x hx)
    | tup xs => exact same_tup n xs h.1 fun x hx => ih x (h.2 x hx)
    | dic t kvs =>
      cases t with
      | false => exact same_dic n kvs h.1 fun p hp => ⟨(h.2 p hp).1, (h.2 p hp).2.1, ih _ (h.2 p hp).2.2⟩
      | true => exact h.elim
    | _ => exact h.elim
end DL.G
namespace DL.G
open PySem PySem.Spec L2
set_option autoImplicit false
/-! ### what is paid -/
def payS (r p : Rat) (k m : Int) : Rat := if m < k then r * (m : Rat) else r * ((k - 1 : Int) : Rat) + p
def lowS (a b : Rat) : Rat := if b < a then b else a
def ratS (r p : Rat) (k m : Int) : Rat := payS r p k m / lowS (r * (m : Rat)) p
theorem pays_raw (x y c e : D) (k m : Int) (h1 : m < k → rv (m_times [x, .tup [.int m, .int 1]]) = .ok c) (h2 : ¬ m < k → rv (m_times [x, .tup [.int (k - 1), .int 1]]) = .ok e) (h3 : ¬ m < k → rv (m_plus [e, y]) = .ok c) : rv (m_pays [x, y, .int k, .int m]) = .ok c := by
  unfold m_pays
  rw [rv_fn]
  unfold b_pays
  by_cases h : m < k
  · simp [h, h1 h]
  · simp [h, h2 h, h3 h]
theorem lpays_raw (x y c e : D) (k m : Int) (h1 : m < k → rv (m_f_law_mul [x, .tup [.int m, .int 1]]) = .ok c) (h2 : ¬ m < k → rv (m_f_law_mul [x, .tup [.int (k - 1), .int 1]]) = .ok e) (h3 : ¬ m < k → rv (m_f_law_add [e, y]) = .ok c) : rv (m_f_law_pays [x, y, .int k, .int m]) = .ok c := by
  unfold m_f_law_pays
  rw [rv_fn]
  unfold b_f_law_pays
  by_cases h : m < k
  · simp [h, h1 h]
  · simp [h, h2 h, h3 h]
theorem ratio_raw (x y k m a b l c : D) (h1 : rv (m_pays [x, y, k, m]) = .ok a) (h2 : rv (m_times [x, .tup [m, .int 1]]) = .ok b) (h3 : rv (m_least [b, y]) = .ok l) (h4 : rv (m_over [a, l]) = .ok c) : rv (m_ratio [x, y, k, m]) = .ok c := by
  unfold m_ratio
  rw [rv_fn]
  unfold b_ratio
  simp [h1, h2, h3, h4]
theorem lquot_raw (x y k m a b l c : D) (h1 : rv (m_f_law_pays [x, y, k, m]) = .ok a) (h2 : rv (m_f_law_mul [x, .tup [m, .int 1]]) = .ok b) (h3 : rv (m_f_law_low [b, y]) = .ok l) (h4 : rv (m_f_law_over [a, l]) = .ok c) : rv (m_f_law_quotient [x, y, k, m]) = .ok c := by
  unfold m_f_law_quotient
  rw [rv_fn]
  unfold b_f_law_quotient
  simp [h1, h2, h3, h4]
structure Rp (r p : Rat) : Prop where
  br : Bd 4 r
  bp : Bd 8 p
  r0 : 0 < r
  p0 : 0 < p
section
variable {r p : Rat} (h : Rp r p) {k m : Int}
include h
theorem pay_bd (hk : k.natAbs < 100) (hm : m.natAbs < 100) : Bd 20 (payS r p k m) := by
  unfold payS
  split
  · exact (mul_bd h.br (int_bd (b := 7) (by omega) (by decide))).mono (by decide)
  · exact add_bd (mul_bd h.br (int_bd (b := 7) (by omega) (by decide))) h.bp
theorem pays_ok (hk : k.natAbs < 100) (hm : m.natAbs < 100) : rv (m_pays [frD r, frD p, .int k, .int m]) = .ok (frD (payS r p k m)) := by
  refine pays_raw _ _ _ (frD (r * ((k - 1 : Int) : Rat))) k m (fun z => ?_) (fun z => ?_) fun z => ?_
  · rw [int_fr, times_ok h.br (int_bd (b := 7) (by omega) (by decide)) (by decide) (by decide)]
    unfold payS; rw [if_pos z]
  · rw [int_fr, times_ok h.br (int_bd (b := 7) (by omega) (by decide)) (by decide) (by decide)]
  · rw [plus_ok (mul_bd h.br (int_bd (b := 7) (m := k - 1) (by omega) (by decide))) h.bp (by decide) (by decide)]
    unfold payS; rw [if_neg z]
theorem lpays_ok (hk : k.natAbs < 100) (hm : m.natAbs < 100) : rv (m_f_law_pays [frD r, frD p, .int k, .int m]) = .ok (frD (payS r p k m)) := by
  refine lpays_raw _ _ _ (frD (r * ((k - 1 : Int) : Rat))) k m (fun z => ?_) (fun z => ?_) fun z => ?_
  · rw [int_fr, lmul_ok h.br (int_bd (b := 7) (by omega) (by decide)) (by decide) (by decide)]
    unfold payS; rw [if_pos z]
  · rw [int_fr, lmul_ok h.br (int_bd (b := 7) (by omega) (by decide)) (by decide) (by decide)]
  · rw [ladd_ok (mul_bd h.br (int_bd (b := 7) (m := k - 1) (by omega) (by decide))) h.bp (by decide) (by decide)]
    unfold payS; rw [if_neg z]
theorem low_bd (hm : m.natAbs < 100) : Bd 11 (lowS (r * (m : Rat)) p) := by
  unfold lowS
  split
  · exact h.bp.mono (by decide)
  · exact mul_bd h.br (int_bd (b := 7) (by omega) (by decide))
theorem rm_pos (hm : 0 < m) : 0 < r * (m : Rat) := Rat.mul_pos h.r0 (by exact_mod_cast hm)
theorem low_pos (hm : 0 < m) : 0 < lowS (r * (m : Rat)) p := by
  unfold lowS
  split
  · exact h.p0
  · exact rm_pos h hm
theorem rat_bd (hk : k.natAbs < 100) (hm : m.natAbs < 100) (h0 : 0 < m) : Bd 31 (ratS r p k m) := div_bd (pay_bd h hk hm) (low_bd h hm) (low_pos h h0)
theorem ratio_ok (hk : k.natAbs < 100) (hm : m.natAbs < 100) (h0 : 0 < m) : rv (m_ratio [frD r, frD p, .int k, .int m]) = .ok (frD (ratS r p k m)) := by
  refine ratio_raw _ _ _ _ _ _ _ _ (pays_ok h hk hm) (by rw [int_fr]; exact times_ok h.br (int_bd (b := 7) (by omega) (by decide)) (by decide) (by decide)) (least_ok (mul_bd h.br (int_bd (b := 7) (by omega) (by decide))) h.bp (by decide) (by decide)) (over_ok (pay_bd h hk hm) (low_bd h hm) (by decide) (by decide) (low_pos h h0))
theorem lquot_ok (hk : k.natAbs < 100) (hm : m.natAbs < 100) (h0 : 0 < m) : rv (m_f_law_quotient [frD r, frD p, .int k, .int m]) = .ok (frD (ratS r p k m)) := by
  refine lquot_raw _ _ _ _ _ _ _ _ (lpays_ok h hk hm) (by rw [int_fr]; exact lmul_ok h.br (int_bd (b := 7) (by omega) (by decide)) (by decide) (by decide)) (llow_ok (mul_bd h.br (int_bd (b := 7) (by omega) (by decide))) h.bp (by decide) (by decide)) (lover_ok (pay_bd h hk hm) (low_bd h hm) (by decide) (by decide) (low_pos h h0))
end
/-! ### the worst day, the best -/
def wS (f : Int → Rat) : Nat → Option (Rat × Int)
  | 0 => none
  | n + 1 => match wS f n with
    | none => some (f (1 + n), 1 + n)
    | some (q, j) => if q < f (1 + n) then some (f (1 + n), 1 + n) else some (q, j)
def bS (f : Int → Rat) : Nat → Option (Rat × Int)
  | 0 => none
  | n + 1 => match bS f n with
    | none => some (f (1 + n), 1 + n)
    | some (q, j) => if f (1 + n) < q then some (f (1 + n), 1 + n) else some (q, j)
def oD : Option (Rat × Int) → D
  | none => .non
  | some (q, j) => .tup [frD q, .int j]
theorem wS_mem {f : Int → Rat} : ∀ {n : Nat} {q : Rat} {j : Int}, wS f n = some (q, j) → q = f j ∧ 1 ≤ j ∧ j ≤ n
  | 0, q, j, h => by cases h
  | n + 1, q, j, h => by
    unfold wS at h
    split at h
    · cases h
      exact ⟨rfl, by omega, by omega⟩
    · rename_i q' j' hq
      obtain ⟨a, b, c⟩ := wS_mem hq
      split at h
      · cases h
        exact ⟨rfl, by omega, by omega⟩
      · cases h
        exact ⟨a, b, by omega⟩
theorem bS_mem {f : Int → Rat} : ∀ {n : Nat} {q : Rat} {j : Int}, bS f n = some (q, j) → q = f j ∧ 1 ≤ j ∧ j ≤ n
  | 0, q, j, h => by cases h
  | n + 1, q, j, h => by
    unfold bS at h
    split at h
    · cases h
      exact ⟨rfl, by omega, by omega⟩
    · rename_i q' j' hq
      obtain ⟨a, b, c⟩ := bS_mem hq
      split at h
      · cases h
        exact ⟨rfl, by omega, by omega⟩
      · cases h
        exact ⟨a, b, by omega⟩
theorem wS_some (f : Int → Rat) (n : Nat) : ∃ q j, wS f (n + 1) = some (q, j) := by
  unfold wS
  split
  · exact ⟨_, _, rfl⟩
  · split <;> exact ⟨_, _, rfl⟩
theorem bS_some (f : Int → Rat) (n : Nat) : ∃ q j, bS f (n + 1) = some (q, j) := by
  unfold bS
  split
  · exact ⟨_, _, rfl⟩
  · split <;> exact ⟨_, _, rfl⟩
theorem wS_max {f : Int → Rat} : ∀ {n : Nat} {q : Rat} {j : Int}, wS f n = some (q, j) → ∀ m : Int, 1 ≤ m → m ≤ n → f m ≤ q
  | 0, q, j, h => by cases h
  | n + 1, q, j, h => by
    intro m h1 h2
    unfold wS at h
    by_cases hm : m = 1 + n
    · subst hm
      split at h
      · cases h; exact Rat.le_refl
      · split at h
        · cases h; exact Rat.le_refl
        · rename_i z
          cases h
          exact Rat.not_lt.mp z
    · split at h
      · rename_i hq
        cases n with
        | zero => omega
        | succ n => obtain ⟨a, b, e⟩ := wS_some f n; rw [hq] at e; cases e
      · rename_i q' j' hq
        have := wS_max hq m h1 (by omega)
        split at h
        · rename_i z
          cases h
          exact Rat.le_trans this (Rat.le_of_lt z)
        · cases h
          exact this
theorem bS_min {f : Int → Rat} : ∀ {n : Nat} {q : Rat} {j : Int}, bS f n = some (q, j) → ∀ m : Int, 1 ≤ m → m ≤ n → q ≤ f m
  | 0, q, j, h => by cases h
  | n + 1, q, j, h => by
    intro m h1 h2
    unfold bS at h
    by_cases hm : m = 1 + n
    · subst hm
      split at h
      · cases h; exact Rat.le_refl
      · split at h
        · cases h; exact Rat.le_refl
        · rename_i z
          cases h
          exact Rat.not_lt.mp z
    · split at h
      · rename_i hq
        cases n with
        | zero => omega
        | succ n => obtain ⟨a, b, e⟩ := bS_some f n; rw [hq] at e; cases e
      · rename_i q' j' hq
        have := bS_min hq m h1 (by omega)
        split at h
        · rename_i z
          cases h
          exact Rat.le_trans (Rat.le_of_lt z) this
        · cases h
          exact this
/-! the loops -/
theorem worst_step (x y d k : D) (f : Int → Rat) (n : Nat) (z : Option D) (hr : rv (m_ratio [x, y, k, .int (1 + n)]) = .ok (frD (f (1 + n)))) (hl : ∀ q j, wS f n = some (q, j) → rv (m_less [frD q, frD (f (1 + n))]) = .ok (.bl (decide (q < f (1 + n))))) :
    ∃ z', l_worst_of_1 [some x, some y, some d, some k, some (oD (wS f n)), some (.int (1 + n)), z] = .ok (.nx, [some x, some y, some d, some k, some (oD (wS f (n + 1))), some (.int (1 + n)), z']) := by
  refine ⟨some (frD (f (1 + n))), ?_⟩
  generalize e : f (1 + (n : Int)) = v at hr hl ⊢
  have e2 : wS f (n + 1) = (match wS f n with
    | none => some (v, 1 + (n : Int))
    | some (q, j) => if q < v then some (v, 1 + (n : Int)) else some (q, j)) := by rw [← e]; rfl
  rw [e2]
  generalize (1 + (n : Int)) = i at hr ⊢
  unfold l_worst_of_1
  cases hw : wS f n with
  | none =>
    generalize hv : frD v = fv at hr ⊢
    simp [oD, hr, hv]
  | some o =>
    obtain ⟨q, j⟩ := o
    have hl' := hl q j hw
    by_cases c : q < v
    · simp only [c, decide_true] at hl'
      generalize hv : frD v = fv at hr hl' ⊢
      generalize hq : frD q = fq at hl' ⊢
      simp [oD, hr, hv, hq, hl', c]
    · simp only [c, decide_false] at hl'
      generalize hv : frD v = fv at hr hl' ⊢
      generalize hq : frD q = fq at hl' ⊢
      simp [oD, hr, hv, hq, hl', c]
theorem worst_ok {r p : Rat} (h : Rp r p) {days k : Int} (hd : 1 ≤ days) (hd2 : days ≤ 45) (hk : 0 ≤ k) (hk2 : k ≤ 50) : rv (m_worst_of [frD r, frD p, .int days, .int k]) = .ok (oD (wS (fun m => ratS r p k m) days.toNat)) := by
  have e : rng2D (.int 1) (.int (days + 1)) = .ok (rngL 1 (days + 1)) := rng2_ok (by decide) (by omega)
  obtain ⟨ρ', q1, q2⟩ := for_rng (t := gSet 5) (b := l_worst_of_1) 1 (days + 1) (fun n ρ => ∃ a b, ρ = [some (frD r), some (frD p), some (.int days), some (.int k), some (oD (wS (fun m => ratS r p k m) n)), a, b]) [some (frD r), some (frD p), some (.int days), some (.int k), some .non, none, none] ⟨none, none, rfl⟩ fun n ρ hn ⟨a, b, hρ⟩ => by
    subst hρ
    obtain ⟨z', hz⟩ := worst_step (frD r) (frD p) (.int days) (.int k) (fun m => ratS r p k m) n b (ratio_ok h (by omega) (by omega) (by omega)) (fun q j hq => by
      obtain ⟨e1, e2, e3⟩ := wS_mem hq
      subst e1
      exact less_ok (rat_bd h (by omega) (by omega) (by omega)) (rat_bd h (by omega) (by omega) (by omega)) (by decide) (by decide))
    exact ⟨_, _, rfl, hz, _, _, rfl⟩
  obtain ⟨a, b, q2⟩ := q2
  subst q2
  have en : (days + 1 - 1).toNat = days.toNat := by omega
  rw [en] at q1
  generalize oD (wS (fun m => ratS r p k m) days.toNat) = w at q1 ⊢
  generalize rngL 1 (days + 1) = l at e q1
  unfold m_worst_of
  rw [rv_fn]
  unfold b_worst_of
  generalize frD r = x at q1 ⊢
  generalize frD p = y at q1 ⊢
  simp [e, q1]
end DL.G
namespace DL.G
open PySem PySem.Spec L2
set_option autoImplicit false
theorem lworst_step (x y d k : D) (f : Int → Rat) (n : Nat) (z : Option D) (hr : rv (m_f_law_quotient [x, y, k, .int (1 + n)]) = .ok (frD (f (1 + n)))) (hl : ∀ q j, wS f n = some (q, j) → rv (m_f_law_less [frD q, frD (f (1 + n))]) = .ok (.bl (decide (q < f (1 + n))))) :
    ∃ z', l_f_law_worst_1 [some x, some y, some d, some k, some (oD (wS f n)), some (.int (1 + n)), z] = .ok (.nx, [some x, some y, some d, some k, some (oD (wS f (n + 1))), some (.int (1 + n)), z']) := by
  refine ⟨some (frD (f (1 + n))), ?_⟩
  generalize e : f (1 + (n : Int)) = v at hr hl ⊢
  have e2 : wS f (n + 1) = (match wS f n with
    | none => some (v, 1 + (n : Int))
    | some (q, j) => if q < v then some (v, 1 + (n : Int)) else some (q, j)) := by rw [← e]; rfl
  rw [e2]
  generalize (1 + (n : Int)) = i at hr ⊢
  unfold l_f_law_worst_1
  cases hw : wS f n with
  | none =>
    generalize hv : frD v = fv at hr ⊢
    simp [oD, hr, hv]
  | some o =>
    obtain ⟨q, j⟩ := o
    have hl' := hl q j hw
    by_cases c : q < v
    · simp only [c, decide_true] at hl'
      generalize hv : frD v = fv at hr hl' ⊢
      generalize hq : frD q = fq at hl' ⊢
      simp [oD, hr, hv, hq, hl', c]
    · simp only [c, decide_false] at hl'
      generalize hv : frD v = fv at hr hl' ⊢
      generalize hq : frD q = fq at hl' ⊢
      simp [oD, hr, hv, hq, hl', c]
theorem lworst_ok {r p : Rat} (h : Rp r p) {days k : Int} (hd : 1 ≤ days) (hd2 : days ≤ 45) (hk : 0 ≤ k) (hk2 : k ≤ 50) : rv (m_f_law_worst [frD r, frD p, .int days, .int k]) = .ok (oD (wS (fun m => ratS r p k m) days.toNat)) := by
  have e : rng2D (.int 1) (.int (days + 1)) = .ok (rngL 1 (days + 1)) := rng2_ok (by decide) (by omega)
  obtain ⟨ρ', q1, q2⟩ := for_rng (t := gSet 5) (b := l_f_law_worst_1) 1 (days + 1) (fun n ρ => ∃ a b, ρ = [some (frD r), some (frD p), some (.int days), some (.int k), some (oD (wS (fun m => ratS r p k m) n)), a, b]) [some (frD r), some (frD p), some (.int days), some (.int k), some .non, none, none] ⟨none, none, rfl⟩ fun n ρ hn ⟨a, b, hρ⟩ => by
    subst hρ
    obtain ⟨z', hz⟩ := lworst_step (frD r) (frD p) (.int days) (.int k) (fun m => ratS r p k m) n b (lquot_ok h (by omega) (by omega) (by omega)) (fun q j hq => by
      obtain ⟨e1, e2, e3⟩ := wS_mem hq
      subst e1
      exact lless_ok (rat_bd h (by omega) (by omega) (by omega)) (rat_bd h (by omega) (by omega) (by omega)) (by decide) (by decide))
    exact ⟨_, _, rfl, hz, _, _, rfl⟩
  obtain ⟨a, b, q2⟩ := q2
  subst q2
  have en : (days + 1 - 1).toNat = days.toNat := by omega
  rw [en] at q1
  generalize oD (wS (fun m => ratS r p k m) days.toNat) = w at q1 ⊢
  generalize rngL 1 (days + 1) = l at e q1
  unfold m_f_law_worst
  rw [rv_fn]
  unfold b_f_law_worst
  generalize frD r = x at q1 ⊢
  generalize frD p = y at q1 ⊢
  simp [e, q1]
/-! ### the best day -/
def gS (r p : Rat) (days : Int) (k : Int) : Rat := match wS (fun m => ratS r p k m) days.toNat with
  | some (q, _) => q
  | none => 0
def mS (r p : Rat) (days : Int) (k : Int) : Int := match wS (fun m => ratS r p k m) days.toNat with
  | some (_, j) => j
  | none => 0
theorem wS_gm (r p : Rat) {days : Int} (hd : 1 ≤ days) (k : Int) : wS (fun m => ratS r p k m) days.toNat = some (gS r p days k, mS r p days k) := by
  obtain ⟨n, hn⟩ : ∃ n, days.toNat = n + 1 := ⟨days.toNat - 1, by omega⟩
  obtain ⟨q, j, e⟩ := wS_some (fun m => ratS r p k m) n
  unfold gS mS
  rw [hn, e]
theorem gS_mem (r p : Rat) {days : Int} (hd : 1 ≤ days) (k : Int) : gS r p days k = ratS r p k (mS r p days k) ∧ 1 ≤ mS r p days k ∧ mS r p days k ≤ days := by
  obtain ⟨a, b, c⟩ := wS_mem (wS_gm r p hd k)
  exact ⟨a, b, by omega⟩
theorem gS_bd {r p : Rat} (h : Rp r p) {days k : Int} (hd : 1 ≤ days) (hd2 : days ≤ 45) (hk : 0 ≤ k) (hk2 : k ≤ 50) : Bd 31 (gS r p days k) := by
  obtain ⟨a, b, c⟩ := gS_mem r p hd k
  rw [a]
  exact rat_bd h (by omega) (by omega) (by omega)
def wD (r p : Rat) (days : Int) (n : Nat) : List (D × D) := (List.range n).map fun (i : Nat) => (D.int (1 + (i : Int)), D.int (mS r p days (1 + (i : Int))))
theorem hasD_none {kvs : List (D × D)} {q : D} (h : ∀ p ∈ kvs, kEq p.1 q = false) : hasD kvs q = false := by
  unfold hasD
  rw [List.any_eq_false]
  intro p hp
  rw [h p hp]
  decide
theorem kEq_int (i j : Int) : kEq (.int i) (.int j) = decide (i = j) := rfl
theorem wD_put (r p : Rat) (days : Int) (n : Nat) : putD (wD r p days n) (.int (1 + (n : Int))) (.int (mS r p days (1 + (n : Int)))) = wD r p days (n + 1) := by
  unfold putD
  rw [hasD_none, if_neg (by decide)]
  · unfold wD
    rw [List.range_succ, List.map_append]
    rfl
  · intro q hq
    unfold wD at hq
    obtain ⟨i, hi, e⟩ := List.mem_map.mp hq
    subst e
    rw [List.mem_range] at hi
    show kEq (.int (1 + (i : Int))) (.int (1 + (n : Int))) = false
    rw [kEq_int]
    exact decide_eq_false (by omega)
theorem wD_set (r p : Rat) (days : Int) (n : Nat) (hn : n < 1000) : setD1 (.dic false (wD r p days n)) (.int (1 + (n : Int))) (.int (mS r p days (1 + (n : Int)))) = .ok (.dic false (wD r p days (n + 1))) := by
  show (if (wD r p days n).length < sizeLine then Res.ok (D.dic false (putD (wD r p days n) (.int (1 + (n : Int))) (.int (mS r p days (1 + (n : Int)))))) else .bad) = _
  rw [wD_put, if_pos]
  unfold wD
  rw [List.length_map, List.length_range, sizeLine_eq]
  omega
theorem best_step' (x y d g w w' : D) (m i : Int) (best best' : D) (z1 z2 : Option D) (hr : rv (m_worst_of [x, y, d, .int i]) = .ok (.tup [g, .int m])) (hs : setD1 w (.int i) (.int m) = .ok w')
    (hb : (best = .non ∧ best' = .tup [g, .int i]) ∨ ∃ q j c, best = .tup [q, j] ∧ rv (m_less [g, q]) = .ok (.bl c) ∧ best' = if c = true then .tup [g, .int i] else best) :
    l_best_rent_1 [some x, some y, some d, some best, some w, some (.int i), z1, z2] = .ok (.nx, [some x, some y, some d, some best', some w', some (.int i), some g, some (.int m)]) := by
  unfold l_best_rent_1
  rcases hb with ⟨rfl, rfl⟩ | ⟨q, j, c, rfl, hl, rfl⟩
  · simp [hr, hs]
  · cases c <;> simp [hr, hs, hl]
theorem lbest_step (x0 x1 x y x4 d i' x7 x8 g w w' : D) (m i : Int) (best best' : D) (z1 z2 z3 z4 : Option D) (hr : rv (m_f_law_worst [x, y, d, .int i]) = .ok (.tup [g, .int m])) (hs : setD1 w (.int i) (.int m) = .ok w')
    (hb : (best = .lst [] ∧ best' = .lst [g, .int i]) ∨ ∃ q j c, best = .lst [q, j] ∧ eqD best (.lst []) = .ok false ∧ rv (m_f_law_less [g, q]) = .ok (.bl c) ∧ best' = if c = true then .lst [g, .int i] else best) :
    l_law_2 [some x0, some x1, some x, some y, some x4, some d, some (.int i), some x7, some x8, some best, some w, z1, z2, z3, z4] = .ok (.nx, [some x0, some x1, some x, some y, some x4, some d, some (.int i), some x7, some x8, some best', some w', some g, some (.int m), z3, z4]) := by
  have e0 : eqD (.lst []) (.lst []) = .ok true := eqD_ints [] []
  unfold l_law_2
  rcases hb with ⟨rfl, rfl⟩ | ⟨q, j, c, rfl, he, hl, rfl⟩
  · simp [hr, hs, e0]
  · cases c <;> simp [hr, hs, hl, he]
end DL.G
namespace DL.G
open PySem PySem.Spec L2
set_option autoImplicit false
theorem bS_frame {f : Int → Rat} {n : Nat} {q : Rat} {j : Int} (hb : bS f n = some (q, j)) : bS f (n + 1) = some (if f (1 + n) < q then (f (1 + n), 1 + (n : Int)) else (q, j)) := by
  show (match bS f n with
    | none => some (f (1 + n), 1 + (n : Int))
    | some (q, j) => if f (1 + n) < q then some (f (1 + n), 1 + (n : Int)) else some (q, j)) = _
  rw [hb]
  dsimp only
  split <;> rfl
def oL : Option (Rat × Int) → D
  | none => .lst []
  | some (q, j) => .lst [frD q, .int j]
section
variable {r p : Rat} (h : Rp r p) {days : Int} (hd : 1 ≤ days) (hd2 : days ≤ 41)
include h hd hd2
theorem worst_gm {k : Int} (hk : 0 ≤ k) (hk2 : k ≤ 50) : rv (m_worst_of [frD r, frD p, .int days, .int k]) = .ok (.tup [frD (gS r p days k), .int (mS r p days k)]) := by
  rw [worst_ok h hd (by omega) hk hk2, wS_gm r p hd]
  rfl
theorem lworst_gm {k : Int} (hk : 0 ≤ k) (hk2 : k ≤ 50) : rv (m_f_law_worst [frD r, frD p, .int days, .int k]) = .ok (.tup [frD (gS r p days k), .int (mS r p days k)]) := by
  rw [lworst_ok h hd (by omega) hk hk2, wS_gm r p hd]
  rfl
theorem best_loop : ∃ a b c : Option D, forM (gSet 5) l_best_rent_1 (rngL 1 (days + 2)) [some (frD r), some (frD p), some (.int days), some .non, some (.dic false []), none, none, none] = .ok (.nx, [some (frD r), some (frD p), some (.int days), some (oD (bS (gS r p days) (days + 1).toNat)), some (.dic false (wD r p days (days + 1).toNat)), a, b, c]) := by
  obtain ⟨ρ', q1, q2⟩ := for_rng (t := gSet 5) (b := l_best_rent_1) 1 (days + 2) (fun n ρ => ∃ a b c, ρ = [some (frD r), some (frD p), some (.int days), some (oD (bS (gS r p days) n)), some (.dic false (wD r p days n)), a, b, c]) [some (frD r), some (frD p), some (.int days), some .non, some (.dic false []), none, none, none] ⟨none, none, none, rfl⟩ fun n ρ hn ⟨a, b, c, hρ⟩ => by
    subst hρ
    refine ⟨_, _, rfl, best_step' (frD r) (frD p) (.int days) _ _ _ _ _ (oD (bS (gS r p days) n)) (oD (bS (gS r p days) (n + 1))) b c (worst_gm h hd hd2 (by omega) (by omega)) (wD_set r p days n (by omega)) ?_, _, _, _, rfl⟩
    cases hb : bS (gS r p days) n with
    | none =>
      refine .inl ⟨rfl, ?_⟩
      have : bS (gS r p days) (n + 1) = some (gS r p days (1 + n), 1 + (n : Int)) := by
        show (match bS (gS r p days) n with
          | none => some (gS r p days (1 + n), 1 + (n : Int))
          | some (q, j) => if gS r p days (1 + n) < q then some (gS r p days (1 + n), 1 + (n : Int)) else some (q, j)) = _
        rw [hb]
      rw [this]
      rfl
    | some o =>
      obtain ⟨q, j⟩ := o
      obtain ⟨e1, e2, e3⟩ := bS_mem hb
      refine .inr ⟨frD q, .int j, decide (gS r p days (1 + n) < q), rfl, less_ok (gS_bd h hd (by omega) (by omega) (by omega)) (e1 ▸ gS_bd h hd (by omega) (by omega) (by omega)) (by decide) (by decide), ?_⟩
      rw [bS_frame hb]
      by_cases c : gS r p days (1 + n) < q
      · rw [if_pos c, if_pos (decide_eq_true c)]; rfl
      · rw [if_neg c, if_neg (by simp [c])]
  obtain ⟨a, b, c, q2⟩ := q2
  subst q2
  rw [show (days + 2 - 1).toNat = (days + 1).toNat by omega] at q1
  exact ⟨a, b, c, q1⟩
theorem lbest_loop (x0 x1 x4 x7 x8 i0 : D) (z6 z7 z8 z11 z12 z13 z14 : Option D) (h7 : z7 = some x7) (h8 : z8 = some x8) : ∃ a b c, forM (gSet 6) l_law_2 (rngL 1 (days + 2)) [some x0, some x1, some (frD r), some (frD p), some x4, some (.int days), z6, z7, z8, some (.lst []), some (.dic false []), z11, z12, z13, z14] = .ok (.nx, [some x0, some x1, some (frD r), some (frD p), some x4, some (.int days), a, z7, z8, some (oL (bS (gS r p days) (days + 1).toNat)), some (.dic false (wD r p days (days + 1).toNat)), b, c, z13, z14]) := by
  subst h7
  subst h8
  obtain ⟨ρ', q1, q2⟩ := for_rng (t := gSet 6) (b := l_law_2) 1 (days + 2) (fun n ρ => ∃ a b c, ρ = [some x0, some x1, some (frD r), some (frD p), some x4, some (.int days), a, some x7, some x8, some (oL (bS (gS r p days) n)), some (.dic false (wD r p days n)), b, c, z13, z14]) [some x0, some x1, some (frD r), some (frD p), some x4, some (.int days), z6, some x7, some x8, some (.lst []), some (.dic false []), z11, z12, z13, z14] ⟨_, _, _, rfl⟩ fun n ρ hn ⟨a, b, c, hρ⟩ => by
    subst hρ
    refine ⟨_, _, rfl, lbest_step x0 x1 (frD r) (frD p) x4 (.int days) .non x7 x8 _ _ _ _ _ (oL (bS (gS r p days) n)) (oL (bS (gS r p days) (n + 1))) b c z13 z14 (lworst_gm h hd hd2 (by omega) (by omega)) (wD_set r p days n (by omega)) ?_, _, _, _, rfl⟩
    cases hb : bS (gS r p days) n with
    | none =>
      refine .inl ⟨rfl, ?_⟩
      have : bS (gS r p days) (n + 1) = some (gS r p days (1 + n), 1 + (n : Int)) := by
        show (match bS (gS r p days) n with
          | none => some (gS r p days (1 + n), 1 + (n : Int))
          | some (q, j) => if gS r p days (1 + n) < q then some (gS r p days (1 + n), 1 + (n : Int)) else some (q, j)) = _
        rw [hb]
      rw [this]
      rfl
    | some o =>
      obtain ⟨q, j⟩ := o
      obtain ⟨e1, e2, e3⟩ := bS_mem hb
      refine .inr ⟨frD q, .int j, decide (gS r p days (1 + n) < q), rfl, ?_, lless_ok (gS_bd h hd (by omega) (by omega) (by omega)) (e1 ▸ gS_bd h hd (by omega) (by omega) (by omega)) (by decide) (by decide), ?_⟩
      · show eqD (.lst [.tup [.int q.num, .int (q.den : Int)], .int j]) (.lst []) = .ok false
        generalize q.num = u
        generalize (q.den : Int) = v
        simp [eqD, toP, toP.toPs, SeqAt.shaped, PyData.canLay0, PyData.canLayAll0, PyData.depth, PyData.depthAll, PyData.eqv, PyData.eqvAll]
      · rw [bS_frame hb]
        by_cases c : gS r p days (1 + n) < q
        · rw [if_pos c, if_pos (decide_eq_true c)]; rfl
        · rw [if_neg c, if_neg (by simp [c])]
  obtain ⟨a, b, c, q2⟩ := q2
  subst q2
  rw [show (days + 2 - 1).toNat = (days + 1).toNat by omega] at q1
  exact ⟨a, b, c, q1⟩
theorem best_ok {Q : Rat} {K : Int} (hb : bS (gS r p days) (days + 1).toNat = some (Q, K)) : rv (m_best_rent [frD r, frD p, .int days]) = .ok (.tup [frD Q, .int K, .dic false (wD r p days (days + 1).toNat)]) := by
  obtain ⟨a, b, c, q1⟩ := best_loop h hd hd2
  have e : rng2D (.int 1) (.int (days + 2)) = .ok (rngL 1 (days + 2)) := rng2_ok (by decide) (by omega)
  rw [hb] at q1
  unfold oD at q1
  dsimp only at q1
  generalize wD r p days (days + 1).toNat = w at q1 ⊢
  generalize rngL 1 (days + 2) = l at e q1
  unfold m_best_rent
  rw [rv_fn]
  unfold b_best_rent
  generalize frD r = x at q1 ⊢
  generalize frD p = y at q1 ⊢
  generalize frD Q = z at q1 ⊢
  simp [e, q1]
end
end DL.G
namespace DL.G
open PySem PySem.Spec L2
set_option autoImplicit false
/-! ### papers judged -/
def wsD (ws : List (Int × Int)) : List (D × D) := ws.map fun q => (.int q.1, .int q.2)
theorem wsD_keys (ws : List (Int × Int)) : (wsD ws).map (·.1) = (ws.map (·.1)).map D.int := by
  unfold wsD
  rw [List.map_map, List.map_map]
  rfl
theorem intsOf_map : ∀ ns : List Int, intsOf (ns.map D.int) = some ns
  | [] => rfl
  | n :: ns => by
    rw [List.map_cons]
    show (intsOf (ns.map D.int)).map (n :: ·) = _
    rw [intsOf_map ns]
    rfl
theorem look_ws {ws : List (Int × Int)} {i : Int} (h : i ∈ ws.map (·.1)) : ∃ j, lookD (wsD ws) (.int i) = some (.int j) := by
  induction ws with
  | nil => simp at h
  | cons q ws ih =>
    show ∃ j, (if kEq (.int q.1) (.int i) = true then some (D.int q.2) else lookD (wsD ws) (.int i)) = some (.int j)
    rw [kEq_int]
    by_cases e : q.1 = i
    · exact ⟨q.2, by rw [if_pos (decide_eq_true e)]⟩
    · rw [if_neg (by simp [e])]
      exact ih (by
        rw [List.map_cons, List.mem_cons] at h
        rcases h with h | h
        · exact absurd h.symm e
        · exact h)
theorem sorted_ws {ws : List (Int × Int)} (h : ws.length < 64) : sortedI (.dic false (wsD ws)) = .ok (.lst ((intSort (ws.map (·.1))).map D.int)) := by
  show (match intsOf ((wsD ws).map (·.1)) with
    | some ns => if ns.length < 64 then Res.ok (D.lst ((intSort ns).map D.int)) else .bad
    | none => .bad) = _
  rw [wsD_keys, intsOf_map]
  dsimp only
  rw [if_pos (by rw [List.length_map]; exact h)]
def rngI (lo hi : Int) : List Int := (List.range (hi - lo).toNat).map fun (i : Nat) => lo + (i : Int)
theorem lrng_ok {days : Int} (h : days ≤ 41) (h0 : 0 ≤ days) : lrngD (.int 1) (.int (days + 2)) = .ok (.lst ((rngI 1 (days + 2)).map D.int)) := by
  unfold lrngD
  rw [rng2_ok (by decide) (by omega)]
  dsimp only
  rw [if_pos, rngL_eq]
  · rfl
  · unfold rngL
    rw [List.length_map, List.length_range, sizeLine_eq]
    omega
theorem keys_in {ws : List (Int × Int)} {days i : Int} (e : intSort (ws.map (·.1)) = rngI 1 (days + 2)) (h : i ∈ ws.map (·.1)) : 1 ≤ i ∧ i ≤ days + 1 := by
  have p : (intSort (ws.map (·.1))).Perm (ws.map (·.1)) := List.mergeSort_perm _ _
  have := p.symm.subset h
  rw [e] at this
  unfold rngI at this
  obtain ⟨k, hk, ek⟩ := List.mem_map.mp this
  rw [List.mem_range] at hk
  omega
/-- one turn of a judge's loop, by data -/
theorem judge_turn (x y d num k w : D) (i j : Int) (z : Option D) (c1 c2 : Bool) (dd : Int) (hd : d = .int dd) (hx : ixD w (.int i) = .ok (.int j)) (h1 : c1 = (decide (1 ≤ j) && decide (j ≤ dd))) (h2 : c1 = true → ∃ q, rv (m_ratio [x, y, .int i, .int j]) = .ok q ∧ rv (m_less [q, num]) = .ok (.bl c2)) :
    l_judge_rent_1 [some x, some y, some d, some num, some k, some w, some (.int i)] = (if (c1 && !c2) = true then .ok (.nx, [some x, some y, some d, some num, some k, some w, some (.int i)]) else .ok (.rt (.bl false), [some x, some y, some d, some num, some k, some w, some (.int i)])) := by
  subst hd
  unfold l_judge_rent_1
  by_cases a1 : 1 ≤ j
  · by_cases a2 : j ≤ dd
    · simp only [a1, a2, decide_true, Bool.and_self] at h1
      obtain ⟨q, e1, e2⟩ := h2 h1
      subst h1
      cases c2 <;> simp [hx, a1, a2, e1, e2]
    · simp only [a1, a2, decide_true, decide_false, Bool.and_false] at h1
      subst h1
      simp [hx, a1, a2]
  · simp only [a1, decide_false, Bool.false_and] at h1
    subst h1
    simp [hx, a1]
theorem right_turn (x y d num k w : D) (i j : Int) (z : Option D) (c1 c2 : Bool) (dd : Int) (hd : d = .int dd) (hx : ixD w (.int i) = .ok (.int j)) (h1 : c1 = (decide (1 ≤ j) && decide (j ≤ dd))) (h2 : c1 = true → ∃ q, rv (m_f_law_quotient [x, y, .int i, .int j]) = .ok q ∧ rv (m_f_law_less [q, num]) = .ok (.bl c2)) :
    l_f_law_right_1 [some x, some y, some d, some num, some k, some w, some (.int i)] = (if (c1 && !c2) = true then .ok (.nx, [some x, some y, some d, some num, some k, some w, some (.int i)]) else .ok (.rt (.bl false), [some x, some y, some d, some num, some k, some w, some (.int i)])) := by
  subst hd
  unfold l_f_law_right_1
  by_cases a1 : 1 ≤ j
  · by_cases a2 : j ≤ dd
    · simp only [a1, a2, decide_true, Bool.and_self] at h1
      obtain ⟨q, e1, e2⟩ := h2 h1
      subst h1
      cases c2 <;> simp [hx, a1, a2, e1, e2]
    · simp only [a1, a2, decide_true, decide_false, Bool.and_false] at h1
      subst h1
      simp [hx, a1, a2]
  · simp only [a1, decide_false, Bool.false_and] at h1
    subst h1
    simp [hx, a1]
def turnB (r p : Rat) (days : Int) (num : Rat) (kvs : List (D × D)) : D → Bool
  | .int i => match lookD kvs (.int i) with
    | some (.int j) => (decide (1 ≤ j) && decide (j ≤ days)) && !decide (ratS r p i j < num)
    | _ => false
  | _ => false
theorem turn_eq {r p : Rat} {days : Int} {num : Rat} {kvs : List (D × D)} {i j : Int} (h : lookD kvs (.int i) = some (.int j)) : turnB r p days num kvs (.int i) = ((decide (1 ≤ j) && decide (j ≤ days)) && !decide (ratS r p i j < num)) := by
  show (match lookD kvs (.int i) with
    | some (.int j) => (decide (1 ≤ j) && decide (j ≤ days)) && !decide (ratS r p i j < num)
    | _ => false) = _
  rw [h]
section
variable {r p : Rat} (h : Rp r p) {days : Int} (hd : 1 ≤ days) (hd2 : days ≤ 41) {num : Rat} (hn : Bd 40 num) {k : Int} {ws : List (Int × Int)} (hw : ws.length < 64)
include h hd hd2 hn hw
theorem ix_ws {i : Int} (hi : i ∈ ws.map (·.1)) : ∃ j, lookD (wsD ws) (.int i) = some (.int j) ∧ ixD (.dic false (wsD ws)) (.int i) = .ok (.int j) := by
  obtain ⟨j, hj⟩ := look_ws hi
  refine ⟨j, hj, ?_⟩
  show (match lookD (wsD ws) (.int i) with | some d => Res.ok d | none => .bad) = _
  rw [hj]
theorem judge_loop (e : intSort (ws.map (·.1)) = rngI 1 (days + 2)) : ∃ ρ', forM (gSet 6) l_judge_rent_1 ((wsD ws).map (·.1)) [some (frD r), some (frD p), some (.int days), some (frD num), some (.int k), some (.dic false (wsD ws)), none] = (if ((wsD ws).map (·.1)).all (turnB r p days num (wsD ws)) = true then .ok (.nx, ρ') else .ok (.rt (.bl false), ρ')) := by
  obtain ⟨ρ', q, _⟩ := forM_all (t := gSet 6) (b := l_judge_rent_1) (fun ρ => ∃ z, ρ = [some (frD r), some (frD p), some (.int days), some (frD num), some (.int k), some (.dic false (wsD ws)), z]) (turnB r p days num (wsD ws)) (.bl false) ((wsD ws).map (·.1)) [some (frD r), some (frD p), some (.int days), some (frD num), some (.int k), some (.dic false (wsD ws)), none] ⟨none, rfl⟩ fun d ρ hm ⟨z, hρ⟩ => by
    subst hρ
    rw [wsD_keys] at hm
    obtain ⟨i, hi, ei⟩ := List.mem_map.mp hm
    subst ei
    obtain ⟨j, hj, hx⟩ := ix_ws h hd hd2 hn hw hi
    obtain ⟨b1, b2⟩ := keys_in e hi
    refine ⟨_, [some (frD r), some (frD p), some (.int days), some (frD num), some (.int k), some (.dic false (wsD ws)), some (.int i)], rfl, ?_, _, rfl⟩
    have := judge_turn (frD r) (frD p) (.int days) (frD num) (.int k) (.dic false (wsD ws)) i j z (decide (1 ≤ j) && decide (j ≤ days)) (decide (ratS r p i j < num)) days rfl hx rfl fun hc => by
      have hc' : 1 ≤ j ∧ j ≤ days := by simpa using hc
      exact ⟨_, ratio_ok h (by omega) (by omega) (by omega), less_ok (rat_bd h (by omega) (by omega) (by omega)) hn (by decide) (by decide)⟩
    show l_judge_rent_1 _ = if turnB r p days num (wsD ws) (.int i) = true then _ else _
    rw [turn_eq hj]
    exact this
  exact ⟨ρ', q⟩
theorem right_loop (e : intSort (ws.map (·.1)) = rngI 1 (days + 2)) : ∃ ρ', forM (gSet 6) l_f_law_right_1 ((wsD ws).map (·.1)) [some (frD r), some (frD p), some (.int days), some (frD num), some (.int k), some (.dic false (wsD ws)), none] = (if ((wsD ws).map (·.1)).all (turnB r p days num (wsD ws)) = true then .ok (.nx, ρ') else .ok (.rt (.bl false), ρ')) := by
  obtain ⟨ρ', q, _⟩ := forM_all (t := gSet 6) (b := l_f_law_right_1) (fun ρ => ∃ z, ρ = [some (frD r), some (frD p), some (.int days), some (frD num), some (.int k), some (.dic false (wsD ws)), z]) (turnB r p days num (wsD ws)) (.bl false) ((wsD ws).map (·.1)) [some (frD r), some (frD p), some (.int days), some (frD num), some (.int k), some (.dic false (wsD ws)), none] ⟨none, rfl⟩ fun d ρ hm ⟨z, hρ⟩ => by
    subst hρ
    rw [wsD_keys] at hm
    obtain ⟨i, hi, ei⟩ := List.mem_map.mp hm
    subst ei
    obtain ⟨j, hj, hx⟩ := ix_ws h hd hd2 hn hw hi
    obtain ⟨b1, b2⟩ := keys_in e hi
    refine ⟨_, [some (frD r), some (frD p), some (.int days), some (frD num), some (.int k), some (.dic false (wsD ws)), some (.int i)], rfl, ?_, _, rfl⟩
    have := right_turn (frD r) (frD p) (.int days) (frD num) (.int k) (.dic false (wsD ws)) i j z (decide (1 ≤ j) && decide (j ≤ days)) (decide (ratS r p i j < num)) days rfl hx rfl fun hc => by
      have hc' : 1 ≤ j ∧ j ≤ days := by simpa using hc
      exact ⟨_, lquot_ok h (by omega) (by omega) (by omega), lless_ok (rat_bd h (by omega) (by omega) (by omega)) hn (by decide) (by decide)⟩
    show l_f_law_right_1 _ = if turnB r p days num (wsD ws) (.int i) = true then _ else _
    rw [turn_eq hj]
    exact this
  exact ⟨ρ', q⟩
end
theorem judge_raw (x y num : D) (days k : Int) (kvs : List (D × D)) (ns : List Int) (c b0 : Bool) (w : D) (hs : sortedI (.dic false kvs) = .ok (.lst (ns.map D.int))) (hr : lrngD (.int 1) (.int (days + 2)) = .ok (.lst ((rngI 1 (days + 2)).map D.int)))
    (h1 : 1 ≤ k → k ≤ days + 1 → ∃ g m, rv (m_worst_of [x, y, .int days, .int k]) = .ok (.tup [g, m]) ∧ rv (m_less [num, g]) = .ok (.bl c))
    (h2 : ns = rngI 1 (days + 2) → ∃ ρ', forM (gSet 6) l_judge_rent_1 (kvs.map (·.1)) [some x, some y, some (.int days), some num, some (.int k), some (.dic false kvs), none] = (if b0 = true then .ok (.nx, ρ') else .ok (.rt (.bl false), ρ'))) :
    rv (m_judge_rent [x, y, .int days, num, .int k, .dic false kvs]) = .ok (.bl (if (1 ≤ k ∧ k ≤ days + 1) ∧ ns = rngI 1 (days + 2) then (!c && b0) else false)) := by
  have ne := neD_ints ns (rngI 1 (days + 2))
  have rw0 := @rv_fn 7 6 false b_judge_rent [x, y, .int days, num, .int k, .dic false kvs]
  unfold m_judge_rent
  rw [rw0]
  have i0 : initEv 7 [x, y, .int days, num, .int k, .dic false kvs] = [some x, some y, some (.int days), some num, some (.int k), some (.dic false kvs), none] := rfl
  rw [i0]
  unfold b_judge_rent
  by_cases a1 : 1 ≤ k
  · by_cases a2 : k ≤ days + 1
    · obtain ⟨g, m, e1, e2⟩ := h1 a1 a2
      by_cases a3 : ns = rngI 1 (days + 2)
      · obtain ⟨ρ', e3⟩ := h2 a3
        have e4 : forA 5 (gSet 6) l_judge_rent_1 [some x, some y, some (.int days), some num, some (.int k), some (.dic false kvs), none] = (if b0 = true then .ok (.nx, ρ') else .ok (.rt (.bl false), ρ')) := by
          show noX (sFor (DL.e1 gKeys (eVar 5)) (gSet 6) l_judge_rent_1) _ = _
          have : sFor (DL.e1 gKeys (eVar 5)) (gSet 6) l_judge_rent_1 [some x, some y, some (.int days), some num, some (.int k), some (.dic false kvs), none] = (if b0 = true then .ok (.nx, ρ') else .ok (.rt (.bl false), ρ')) := e3
          unfold noX
          rw [this]
          cases b0 <;> rfl
        simp only [a3, decide_true, Bool.not_true] at ne
        subst a3
        cases c <;> cases b0 <;> simp [a1, a2, hs, hr, ne, e1, e2, e4]
      · simp only [a3, decide_false, Bool.not_false] at ne
        simp [a1, a2, a3, hs, hr, ne]
    · simp [a1, a2]
  · simp [a1]
theorem right_raw (x y num : D) (days k : Int) (kvs : List (D × D)) (ns : List Int) (c b0 : Bool) (w : D) (hs : sortedI (.dic false kvs) = .ok (.lst (ns.map D.int))) (hr : lrngD (.int 1) (.int (days + 2)) = .ok (.lst ((rngI 1 (days + 2)).map D.int)))
    (h1 : 1 ≤ k → k ≤ days + 1 → ∃ g m, rv (m_f_law_worst [x, y, .int days, .int k]) = .ok (.tup [g, m]) ∧ rv (m_f_law_less [num, g]) = .ok (.bl c))
    (h2 : ns = rngI 1 (days + 2) → ∃ ρ', forM (gSet 6) l_f_law_right_1 (kvs.map (·.1)) [some x, some y, some (.int days), some num, some (.int k), some (.dic false kvs), none] = (if b0 = true then .ok (.nx, ρ') else .ok (.rt (.bl false), ρ'))) :
    rv (m_f_law_right [x, y, .int days, num, .int k, .dic false kvs]) = .ok (.bl (if (1 ≤ k ∧ k ≤ days + 1) ∧ ns = rngI 1 (days + 2) then (!c && b0) else false)) := by
  have ne := neD_ints ns (rngI 1 (days + 2))
  have rw0 := @rv_fn 7 6 false b_f_law_right [x, y, .int days, num, .int k, .dic false kvs]
  unfold m_f_law_right
  rw [rw0]
  have i0 : initEv 7 [x, y, .int days, num, .int k, .dic false kvs] = [some x, some y, some (.int days), some num, some (.int k), some (.dic false kvs), none] := rfl
  rw [i0]
  unfold b_f_law_right
  by_cases a1 : 1 ≤ k
  · by_cases a2 : k ≤ days + 1
    · obtain ⟨g, m, e1, e2⟩ := h1 a1 a2
      by_cases a3 : ns = rngI 1 (days + 2)
      · obtain ⟨ρ', e3⟩ := h2 a3
        have e4 : forA 5 (gSet 6) l_f_law_right_1 [some x, some y, some (.int days), some num, some (.int k), some (.dic false kvs), none] = (if b0 = true then .ok (.nx, ρ') else .ok (.rt (.bl false), ρ')) := by
          show noX (sFor (DL.e1 gKeys (eVar 5)) (gSet 6) l_f_law_right_1) _ = _
          have : sFor (DL.e1 gKeys (eVar 5)) (gSet 6) l_f_law_right_1 [some x, some y, some (.int days), some num, some (.int k), some (.dic false kvs), none] = (if b0 = true then .ok (.nx, ρ') else .ok (.rt (.bl false), ρ')) := e3
          unfold noX
          rw [this]
          cases b0 <;> rfl
        simp only [a3, decide_true, Bool.not_true] at ne
        subst a3
        cases c <;> cases b0 <;> simp [a1, a2, hs, hr, ne, e1, e2, e4]
      · simp only [a3, decide_false, Bool.not_false] at ne
        simp [a1, a2, a3, hs, hr, ne]
    · simp [a1, a2]
  · simp [a1]
theorem judge_eq {r p : Rat} (h : Rp r p) {days : Int} (hd : 1 ≤ days) (hd2 : days ≤ 41) {num : Rat} (hn : Bd 40 num) {k : Int} {ws : List (Int × Int)} (hw : ws.length < 64) :
    ∃ b, rv (m_judge_rent [frD r, frD p, .int days, frD num, .int k, .dic false (wsD ws)]) = .ok (.bl b) ∧ rv (m_f_law_right [frD r, frD p, .int days, frD num, .int k, .dic false (wsD ws)]) = .ok (.bl b) := by
  refine ⟨_, judge_raw _ _ _ _ _ _ _ (decide (num < gS r p days k)) (((wsD ws).map (·.1)).all (turnB r p days num (wsD ws))) .non (sorted_ws hw) (lrng_ok hd2 (by omega)) (fun a b => ⟨_, _, worst_gm h hd hd2 (by omega) (by omega), less_ok hn (gS_bd h hd (by omega) (by omega) (by omega)) (by decide) (by decide)⟩) (fun e => judge_loop h hd hd2 hn hw e),
    right_raw _ _ _ _ _ _ _ (decide (num < gS r p days k)) (((wsD ws).map (·.1)).all (turnB r p days num (wsD ws))) .non (sorted_ws hw) (lrng_ok hd2 (by omega)) (fun a b => ⟨_, _, lworst_gm h hd hd2 (by omega) (by omega), lless_ok hn (gS_bd h hd (by omega) (by omega) (by omega)) (by decide) (by decide)⟩) (fun e => right_loop h hd hd2 hn hw e)⟩
end DL.G
namespace DL.G
open PySem PySem.Spec L2
set_option autoImplicit false
/-! ### papers bent -/
theorem put_ws (ws : List (Int × Int)) (i j : Int) : ∃ ws' : List (Int × Int), putD (wsD ws) (.int i) (.int j) = wsD ws' ∧ ws'.length ≤ ws.length + 1 := by
  unfold putD
  split
  · refine ⟨ws.map fun q => if q.1 = i then (q.1, j) else q, ?_, by rw [List.length_map]; omega⟩
    unfold wsD
    rw [List.map_map, List.map_map]
    apply List.map_congr_left
    intro q _
    show (if kEq (.int q.1) (.int i) = true then ((.int q.1 : D), (.int j : D)) else (.int q.1, .int q.2)) = (fun q : Int × Int => ((.int q.1 : D), (.int q.2 : D))) (if q.1 = i then (q.1, j) else q)
    rw [kEq_int]
    by_cases e : q.1 = i <;> simp [e]
  · refine ⟨ws ++ [(i, j)], ?_, by rw [List.length_append]; exact Nat.le_refl _⟩
    unfold wsD
    rw [List.map_append]
    rfl
theorem drop_ws (ws : List (Int × Int)) (i : Int) : ∃ ws' : List (Int × Int), dropD (wsD ws) (.int i) = wsD ws' ∧ ws'.length ≤ ws.length := by
  refine ⟨ws.filter fun q => !decide (q.1 = i), ?_, List.length_filter_le _ _⟩
  unfold dropD wsD
  rw [List.filter_map]
  rfl
theorem set_ws {ws : List (Int × Int)} (hw : ws.length ≤ 50) (i j : Int) : ∃ ws' : List (Int × Int), setD1 (.dic false (wsD ws)) (.int i) (.int j) = .ok (.dic false (wsD ws')) ∧ ws'.length ≤ ws.length + 1 := by
  obtain ⟨ws', e, l⟩ := put_ws ws i j
  refine ⟨ws', ?_, l⟩
  show (if (wsD ws).length < sizeLine then Res.ok (D.dic false (putD (wsD ws) (.int i) (.int j))) else .bad) = _
  rw [e, if_pos]
  unfold wsD
  rw [List.length_map, sizeLine_eq]
  omega
theorem pop_ws {ws : List (Int × Int)} {i : Int} (h : i ∈ ws.map (·.1)) : ∃ (ws' : List (Int × Int)) (j : Int), dpopD (.dic false (wsD ws)) (.int i) = .ok (.dic false (wsD ws'), .int j) ∧ ws'.length ≤ ws.length := by
  obtain ⟨j, hj⟩ := look_ws h
  obtain ⟨ws', e, l⟩ := drop_ws ws i
  refine ⟨ws', j, ?_, l⟩
  show (match lookD (wsD ws) (.int i) with
    | some d => Res.ok (D.dic false (dropD (wsD ws) (.int i)), d)
    | none => .bad) = _
  rw [hj, e]
theorem frac100 : D.tup [.int 1, .int 100] = frD (1 / 100 : Rat) ∧ D.tup [.int (-1), .int 100] = frD (-1 / 100 : Rat) := by
  constructor
  · show _ = D.tup [.int (1 / 100 : Rat).num, .int ((1 / 100 : Rat).den : Int)]
    rw [show (1 / 100 : Rat).num = 1 by decide +kernel, show (1 / 100 : Rat).den = 100 by decide +kernel]; rfl
  · show _ = D.tup [.int (-1 / 100 : Rat).num, .int ((-1 / 100 : Rat).den : Int)]
    rw [show (-1 / 100 : Rat).num = -1 by decide +kernel, show (-1 / 100 : Rat).den = 100 by decide +kernel]; rfl
theorem bd100 : Bd 7 (1 / 100 : Rat) ∧ Bd 7 (-1 / 100 : Rat) := by
  constructor <;> constructor <;> decide +kernel
@[simp] theorem isDic_dic (t : Bool) (kvs : List (D × D)) : isDic (.dic t kvs) = true := rfl
@[simp] theorem ap_dpop (i : Nat) (f : EM D) (ρ : Ev) : eDPop i f ρ = (match ρ[i]? with
  | some (some x0) => if isDic x0 = true then (match f ρ with
    | .ok (q, ρ2) => eUpd i (fun x => dpopD x q) ρ2
    | .exc x => .exc x
    | .bad => .bad) else .bad
  | _ => .bad) := by
  unfold eDPop
  rw [ap_bind]
  unfold eVar
  cases q : ρ[i]? with
  | none => simp [q]
  | some o => cases o with
    | none => simp [q]
    | some d =>
      simp only [q]
      cases isDic d with
      | false => rfl
      | true =>
        simp only [if_true]
        rw [ap_bind]
        cases f ρ with
        | ok p => obtain ⟨a, b⟩ := p; rfl
        | exc x => rfl
        | bad => rfl
theorem bent_ok {ns : List Int} {d : D} (hp : PoolOk ns d) {days : Int} (hd : 1 ≤ days) (hd2 : days ≤ 41) {Q : Rat} (hQ : Bd 31 Q) {K : Int} {ws : List (Int × Int)} (hw : ws.length ≤ 50) (hk : ∀ i : Int, 1 ≤ i → i ≤ days + 1 → i ∈ ws.map (·.1)) :
    ∃ num k ws' d', m_f_law_bent [d, .int days, .tup [frD Q, .int K, .dic false (wsD ws)]] = .ok (.lst [frD num, .int k, .dic false (wsD ws')], [d', .int days, .tup [frD Q, .int K, .dic false (wsD ws)]]) ∧ PoolOk ns d' ∧ Bd 40 num ∧ ws'.length < 64 := by
  obtain ⟨v1, d1, e1, p1, v1a, v1b⟩ := draw_ok (L := 6) hp (by decide) (by decide)
  obtain ⟨v2, d2, e2, p2, v2a, v2b⟩ := draw_ok (L := days + 1) p1 (by omega) (by omega)
  have hdict : dictD (.dic false (wsD ws)) = .ok (.dic false (wsD ws)) := rfl
  have hQ40 : Bd 40 Q := hQ.mono (by decide)
  unfold m_f_law_bent fnM b_f_law_bent
  by_cases c0 : v1 = 0
  · subst c0
    obtain ⟨x, d3, e3, p3, hx⟩ := pick_ok (xs := [.tup [.int 1, .int 100], .tup [.int (-1), .int 100]]) p2 (by decide) (by decide)
    have key : ∃ num, rv (m_f_law_add [frD Q, x]) = .ok (frD num) ∧ Bd 40 num := by
      simp only [List.mem_cons, List.not_mem_nil, or_false] at hx
      rcases hx with rfl | rfl
      · rw [frac100.1]
        exact ⟨_, ladd_ok hQ bd100.1 (by decide) (by decide), (add_bd hQ bd100.1).mono (by decide)⟩
      · rw [frac100.2]
        exact ⟨_, ladd_ok hQ bd100.2 (by decide) (by decide), (add_bd hQ bd100.2).mono (by decide)⟩
    obtain ⟨num, k1, k2⟩ := key
    refine ⟨num, K, ws, d3, ?_, p3, k2, by omega⟩
    generalize frD Q = q at k1 ⊢
    generalize frD num = nm at k1 ⊢
    generalize wsD ws = w at hdict ⊢
    simp [hdict, e1, e2, e3, k1, fin]
  · by_cases c1 : v1 = 1
    · subst c1
      obtain ⟨x, d3, e3, p3, hx⟩ := pick_ok (xs := [.int (K + 1), .int (K - 1), .int 0, .int (days + 1), .int (days + 2)]) p2 (by simp) (by simp)
      obtain ⟨k, rfl⟩ : ∃ k, x = .int k := by
        simp only [List.mem_cons, List.not_mem_nil, or_false] at hx
        rcases hx with rfl | rfl | rfl | rfl | rfl <;> exact ⟨_, rfl⟩
      refine ⟨Q, k, ws, d3, ?_, p3, hQ40, by omega⟩
      generalize frD Q = q
      generalize wsD ws = w at hdict ⊢
      simp [hdict, e1, e2, e3, fin]
    · by_cases c2 : v1 = 2
      · subst c2
        obtain ⟨x, d3, e3, p3, hx⟩ := pick_ok (xs := [.int 1, .int days, .int 0, .int (days + 1)]) p2 (by simp) (by simp)
        obtain ⟨j, rfl⟩ : ∃ k, x = .int k := by
          simp only [List.mem_cons, List.not_mem_nil, or_false] at hx
          rcases hx with rfl | rfl | rfl | rfl <;> exact ⟨_, rfl⟩
        obtain ⟨ws', k1, k2⟩ := set_ws hw (1 + v2) j
        refine ⟨Q, K, ws', d3, ?_, p3, hQ40, by omega⟩
        generalize frD Q = q
        generalize wsD ws = w at hdict k1 ⊢
        generalize wsD ws' = w' at k1 ⊢
        simp [hdict, e1, e2, e3, k1, fin]
      · by_cases c3 : v1 = 3
        · subst c3
          obtain ⟨ws', j, k1, k2⟩ := pop_ws (hk (1 + v2) (by omega) (by omega))
          refine ⟨Q, K, ws', d2, ?_, p2, hQ40, by omega⟩
          generalize frD Q = q
          generalize wsD ws = w at hdict k1 ⊢
          generalize wsD ws' = w' at k1 ⊢
          simp [hdict, e1, e2, k1, fin]
        · by_cases c4 : v1 = 4
          · subst c4
            obtain ⟨ws', k1, k2⟩ := set_ws hw (days + 2) 1
            refine ⟨Q, K, ws', d2, ?_, p2, hQ40, by omega⟩
            generalize frD Q = q
            generalize wsD ws = w at hdict k1 ⊢
            generalize wsD ws' = w' at k1 ⊢
            simp [hdict, e1, e2, k1, fin]
          · obtain ⟨v3, d3, e3, p3, v3a, v3b⟩ := draw_ok (L := days) p2 (by omega) (by omega)
            obtain ⟨ws', k1, k2⟩ := set_ws hw (1 + v2) (1 + v3)
            refine ⟨Q, K, ws', d3, ?_, p3, hQ40, by omega⟩
            generalize frD Q = q
            generalize wsD ws = w at hdict k1 ⊢
            generalize wsD ws' = w' at k1 ⊢
            simp [hdict, e1, e2, e3, k1, fin, c0, c1, c2, c3, c4]
end DL.G
namespace DL.G
open PySem PySem.Spec L2
set_option autoImplicit false
/-! ### the best greatest ratio -/
theorem div_le' {a b c : Rat} (h : 0 < c) (k : a ≤ b * c) : a / c ≤ b := by
  refine Rat.not_lt.mp fun z => ?_
  exact absurd ((Rat.lt_div_iff h).mp z) (Rat.not_lt.mpr k)
theorem le_div' {a b c : Rat} (h : 0 < c) (k : b * c ≤ a) : b ≤ a / c := by
  refine Rat.not_lt.mp fun z => ?_
  exact absurd ((Rat.div_lt_iff h).mp z) (Rat.not_lt.mpr k)
theorem r_mono {r : Rat} (h : 0 < r) {a b : Int} (k : a ≤ b) : r * (a : Rat) ≤ r * (b : Rat) := Rat.mul_le_mul_of_nonneg_left (Rat.intCast_le_intCast.mpr k) (Rat.le_of_lt h)
theorem low_eq_min (a b : Rat) : (lowS a b = a ∧ a ≤ b) ∨ (lowS a b = b ∧ b < a) := by
  unfold lowS
  by_cases c : b < a
  · exact .inr ⟨by rw [if_pos c], c⟩
  · exact .inl ⟨by rw [if_neg c], Rat.not_lt.mp c⟩
theorem rat_le_two {r p : Rat} (h : Rp r p) {k m : Int} (hm : 1 ≤ m) (h1 : m < k → r * (m : Rat) ≤ p) (h2 : k ≤ m → p ≤ r * (m : Rat) ∧ r * ((k - 1 : Int) : Rat) ≤ p) : ratS r p k m ≤ 2 := by
  have r0 := rm_pos h (m := m) (by omega)
  have p0 := h.p0
  unfold ratS
  refine div_le' (low_pos h (by omega)) ?_
  rcases low_eq_min (r * (m : Rat)) p with ⟨e, c⟩ | ⟨e, c⟩
  · rw [e]
    unfold payS
    by_cases q : m < k
    · rw [if_pos q]; grind
    · rw [if_neg q]
      have := h2 (by omega)
      grind
  · rw [e]
    unfold payS
    by_cases q : m < k
    · rw [if_pos q]
      have := h1 q
      grind
    · rw [if_neg q]
      have := h2 (by omega)
      grind
theorem gS_le {r p : Rat} {days : Int} (hd : 1 ≤ days) {k : Int} {B : Rat} (hB : ∀ m : Int, 1 ≤ m → m ≤ days → ratS r p k m ≤ B) : gS r p days k ≤ B := by
  obtain ⟨a, b, c⟩ := gS_mem r p hd k
  rw [a]
  exact hB _ b c
theorem le_gS {r p : Rat} {days : Int} (hd : 1 ≤ days) {k m : Int} (h1 : 1 ≤ m) (h2 : m ≤ days) : ratS r p k m ≤ gS r p days k := wS_max (wS_gm r p hd k) m h1 (by omega)
theorem least_day (c : Int → Prop) [DecidablePred c] : ∀ n : Nat, (∃ k : Int, 1 ≤ k ∧ k ≤ n ∧ c k ∧ ∀ j, 1 ≤ j → j < k → ¬ c j) ∨ ∀ j : Int, 1 ≤ j → j ≤ n → ¬ c j
  | 0 => .inr fun j h1 h2 => by omega
  | n + 1 => by
    rcases least_day c n with ⟨k, a, b, d, e⟩ | h
    · exact .inl ⟨k, a, by omega, d, e⟩
    · by_cases q : c (n + 1)
      · exact .inl ⟨n + 1, by omega, by omega, q, fun j h1 h2 => h j h1 (by omega)⟩
      · refine .inr fun j h1 h2 z => ?_
        by_cases w : j = n + 1
        · subst w; exact q z
        · exact h j h1 (by omega) z
theorem best_le_two {r p : Rat} (h : Rp r p) {days : Int} (hd : 1 ≤ days) {Q : Rat} {K : Int} (hb : bS (gS r p days) (days + 1).toNat = some (Q, K)) : Q ≤ 2 := by
  have mn := fun k a b => bS_min hb k a b
  rcases least_day (fun k => p ≤ r * (k : Rat)) days.toNat with ⟨k, a, b, c, e⟩ | e
  · refine Rat.le_trans (mn k a (by omega)) (gS_le hd fun m h1 h2 => rat_le_two h h1 (fun q => ?_) fun q => ⟨?_, ?_⟩)
    · exact Rat.le_of_lt (Rat.not_le.mp (e m h1 q))
    · exact Rat.le_trans c (r_mono h.r0 q)
    · by_cases k1 : k = 1
      · subst k1
        have : r * ((1 - 1 : Int) : Rat) = 0 := by simp
        rw [this]; exact Rat.le_of_lt h.p0
      · exact Rat.le_of_lt (Rat.not_le.mp (e (k - 1) (by omega) (by omega)))
  · refine Rat.le_trans (mn (days + 1) (by omega) (by omega)) (gS_le hd fun m h1 h2 => rat_le_two h h1 (fun q => ?_) fun q => absurd q (by omega))
    exact Rat.le_of_lt (Rat.not_le.mp (e m h1 (by omega)))
/-! a price of t rents -/
theorem cast_pos {a : Int} (h : 0 < a) : 0 < (a : Rat) := Rat.intCast_lt_intCast.mpr h
theorem frac_le {a b c d : Int} (hb : 0 < b) (hd : 0 < d) (h : a * d ≤ c * b) : (a : Rat) / (b : Rat) ≤ (c : Rat) / (d : Rat) := by
  refine div_le' (cast_pos hb) ?_
  have e : (c : Rat) / (d : Rat) * (b : Rat) = ((c : Rat) * (b : Rat)) / (d : Rat) := by
    rw [Rat.div_def, Rat.div_def, Rat.mul_assoc, Rat.mul_comm (d : Rat)⁻¹, ← Rat.mul_assoc]
  rw [e]
  refine le_div' (cast_pos hd) ?_
  rw [← Rat.intCast_mul, ← Rat.intCast_mul]
  exact Rat.intCast_le_intCast.mpr h
theorem rat_t {r : Rat} {t : Int} (h : Rp r (r * (t : Rat))) {k m : Int} (hm : 1 ≤ m) (ht : 1 ≤ t) : ratS r (r * (t : Rat)) k m = ((if m < k then m else k - 1 + t : Int) : Rat) / ((if t < m then t else m : Int) : Rat) := by
  have r0 := h.r0
  have rn : r ≠ 0 := fun z => by rw [z] at r0; exact absurd r0 (by decide +kernel)
  have canc : ∀ a b : Rat, 0 < b → (r * a) / (r * b) = a / b := fun a b hb => by
    have hb' : b ≠ 0 := fun z => by rw [z] at hb; exact absurd hb (by decide +kernel)
    have h1 : 0 < r * b := Rat.mul_pos r0 hb
    apply Rat.le_antisymm
    · refine div_le' h1 ?_
      have : a / b * (r * b) = r * a := by
        rw [Rat.mul_comm r b, ← Rat.mul_assoc, Rat.div_mul_cancel hb', Rat.mul_comm]
      rw [this]; exact Rat.le_refl
    · refine le_div' h1 ?_
      have : a / b * (r * b) = r * a := by
        rw [Rat.mul_comm r b, ← Rat.mul_assoc, Rat.div_mul_cancel hb', Rat.mul_comm]
      rw [this]; exact Rat.le_refl
  have e1 : payS r (r * (t : Rat)) k m = r * ((if m < k then m else k - 1 + t : Int) : Rat) := by
    unfold payS
    by_cases c : m < k
    · rw [if_pos c, if_pos c]
    · rw [if_neg c, if_neg c, Rat.intCast_add]
      grind
  have e2 : lowS (r * (m : Rat)) (r * (t : Rat)) = r * ((if t < m then t else m : Int) : Rat) := by
    unfold lowS
    by_cases c : t < m
    · rw [if_pos ((Rat.mul_lt_mul_left r0).mpr (Rat.intCast_lt_intCast.mpr c)), if_pos c]
    · rw [if_neg (fun z => c (Rat.intCast_lt_intCast.mp ((Rat.mul_lt_mul_left r0).mp z))), if_neg c]
  unfold ratS
  rw [e1, e2]
  exact canc _ _ (cast_pos (by split <;> omega))
theorem best_t {r : Rat} {t days : Int} (h : Rp r (r * (t : Rat))) (ht : 1 ≤ t) (hd : 2 * t - 1 ≤ days) {Q : Rat} {K : Int} (hb : bS (gS r (r * (t : Rat)) days) (days + 1).toNat = some (Q, K)) : Q = ((2 * t - 1 : Int) : Rat) / (t : Rat) := by
  have hd1 : 1 ≤ days := by omega
  apply Rat.le_antisymm
  · refine Rat.le_trans (bS_min hb t ht (by omega)) (gS_le hd1 fun m h1 h2 => ?_)
    rw [rat_t h h1 ht]
    refine frac_le (by split <;> omega) (by omega) ?_
    by_cases c : m < t
    · rw [if_pos c, if_neg (by omega), Int.mul_comm]
      exact Int.mul_le_mul_of_nonneg_right (by omega) (by omega)
    · rw [if_neg c]
      by_cases c2 : t < m
      · rw [if_pos c2]
        exact Int.mul_le_mul_of_nonneg_right (by omega) (by omega)
      · rw [if_neg c2]
        have : m = t := by omega
        subst this
        exact Int.mul_le_mul_of_nonneg_right (by omega) (by omega)
  · obtain ⟨e, k1, k2⟩ := bS_mem hb
    rw [e]
    have low : ∀ m : Int, 1 ≤ m → m ≤ days → (2 * t - 1) * (if t < m then t else m) ≤ (if m < K then m else K - 1 + t) * t → ((2 * t - 1 : Int) : Rat) / (t : Rat) ≤ gS r (r * (t : Rat)) days K := fun m h1 h2 h3 => by
      refine Rat.le_trans ?_ (le_gS hd1 h1 h2)
      rw [rat_t h h1 ht]
      exact frac_le (by omega) (by split <;> omega) h3
    by_cases c : K ≤ t
    · refine low K k1 (by omega) ?_
      rw [if_neg (by omega), if_neg (by omega)]
      have z : 0 ≤ (t - 1) * (t - K) := Int.mul_nonneg (by omega) (by omega)
      have e1 : (t - 1) * (t - K) = t * t - t * K - t + K := by
        rw [Int.sub_mul, Int.mul_sub]; omega
      have e2 : (2 * t - 1) * K = 2 * (t * K) - K := by rw [Int.sub_mul, Int.mul_assoc]; omega
      have e3 : (K - 1 + t) * t = t * K - t + t * t := by rw [Int.add_mul, Int.sub_mul, Int.mul_comm K t]; omega
      omega
    · by_cases c2 : K ≤ days
      · refine low K k1 c2 ?_
        rw [if_neg (show ¬ K < K by omega), if_pos (show t < K by omega)]
        exact Int.mul_le_mul_of_nonneg_right (by omega) (by omega)
      · refine low days hd1 (Int.le_refl _) ?_
        rw [if_pos (show days < K by omega)]
        by_cases c3 : t < days
        · rw [if_pos c3]
          exact Int.mul_le_mul_of_nonneg_right (by omega) (by omega)
        · rw [if_neg c3]
          have : t = days := by omega
          subst this
          exact Int.mul_le_mul_of_nonneg_right (by omega) (by omega)
end DL.G
namespace DL.G
open PySem PySem.Spec L2
set_option autoImplicit false
def s_law_1 : SM := (sSet 1 (eCall [none] m_f_law_pool (eCons (eVar 0) eNil)))
def s_law_2 : SM := (sSet 2 (eCall [none, none] m_f_law_ratio (eCons (e2 addD (eRet (.int 1)) (eCall [some 1, none] m_f_law_draw (eConsO 1 (eCons (eRet (.int 6)) eNil)))) (eCons (e2 addD (eRet (.int 1)) (eCall [some 1, none] m_f_law_draw (eConsO 1 (eCons (eRet (.int 4)) eNil)))) eNil))))
def s_law_3 : SM := (sSet 3 (eCall [none, none] m_f_law_ratio (eCons (e2 addD (eRet (.int 1)) (eCall [some 1, none] m_f_law_draw (eConsO 1 (eCons (eRet (.int 60)) eNil)))) (eCons (e2 addD (eRet (.int 1)) (eCall [some 1, none] m_f_law_draw (eConsO 1 (eCons (eRet (.int 3)) eNil)))) eNil))))
def s_law_4 : SM := (sSet 4 (e2 addD (eRet (.int 1)) (eCall [some 1, none] m_f_law_draw (eConsO 1 (eCons (eRet (.int 9)) eNil)))))
def s_law_5 : SM := (sIf (e2 eqD (eCall [some 1, none] m_f_law_draw (eConsO 1 (eCons (eRet (.int 3)) eNil))) (eRet (.int 0)))
 (sSeq (sSet 3 (eCall [none, none] m_f_law_mul (eCons (eVar 2) (eCons (eL gTup (eCons (eVar 4) (eCons (eRet (.int 1)) eNil))) eNil))))
 sNil)
 sNil)
def s_law_6 : SM := (sSet 5 (e2 addD (eRet (.int 1)) (eCall [some 1, none] m_f_law_draw (eConsO 1 (eCons (eCall [some 1, none] m_f_law_pick (eConsO 1 (eCons (eL gLst (eCons (eRet (.int 3)) (eCons (eRet (.int 12)) (eCons (eRet (.int 40)) eNil)))) eNil))) eNil)))))
def s_law_7 : SM := (sFor (e1 rng1D (eRet (.int 3))) (gSet 6) l_law_1)
def s_law_8 : SM := (sSet 9 (eL gLst eNil))
def s_law_9 : SM := (sSet 10 (eRet (.dic false [])))
def s_law_10 : SM := (sFor (e2 rng2D (eRet (.int 1)) (e2 addD (eVar 5) (eRet (.int 2)))) (gSet 6) l_law_2)
def s_law_11 : SM := (sSet 8 (eCall [none, none, none] m_best_rent (eCons (eVar 2) (eCons (eVar 3) (eCons (eVar 5) eNil)))))
def s_law_12 : SM := (sIf (eOr (eNot (e1 gBl (eCall [none, none] (m_f_law_same 8) (eCons (eVar 8) (eCons (eL gTup (eCons (e2 ixD (eVar 9) (eRet (.int 0))) (eCons (e2 ixD (eVar 9) (eRet (.int 1))) (eCons (eVar 10) eNil)))) eNil))))) (e1 gBl (eCall [none, none] m_f_law_less (eCons (eL gTup (eCons (eRet (.int 2)) (eCons (eRet (.int 1)) eNil))) (eCons (e2 ixD (eVar 8) (eRet (.int 0))) eNil)))))
 (sSeq (sRet (eRet (.bl false))) sNil)
 sNil)
def s_law_13 : SM := (sIf (eAnd (e2 eqD (eVar 3) (eCall [none, none] m_f_law_mul (eCons (eVar 2) (eCons (eL gTup (eCons (eVar 4) (eCons (eRet (.int 1)) eNil))) eNil)))) (eAnd (e2 (cmpD fun i j => decide (j ≤ i)) (eVar 5) (e2 subD (e2 mulD (eRet (.int 2)) (eVar 4)) (eRet (.int 1)))) (e2 neD (e2 ixD (eVar 8) (eRet (.int 0))) (eCall [none, none] m_f_law_ratio (eCons (e2 subD (e2 mulD (eRet (.int 2)) (eVar 4)) (eRet (.int 1))) (eCons (eVar 4) eNil))))))
 (sSeq (sRet (eRet (.bl false))) sNil)
 sNil)
def s_law_14 : SM := (sFor (e1 rng1D (eRet (.int 5))) (gSet 6) l_law_3)
def s_law_15 : SM := (sRet (eRet (.bl true)))
theorem b_law_eq : b_law = (sSeq s_law_1 (sSeq s_law_2 (sSeq s_law_3 (sSeq s_law_4 (sSeq s_law_5 (sSeq s_law_6 (sSeq s_law_7 (sSeq s_law_8 (sSeq s_law_9 (sSeq s_law_10 (sSeq s_law_11 (sSeq s_law_12 (sSeq s_law_13 (sSeq s_law_14 (sSeq s_law_15 sNil))))))))))))))) := rfl
theorem st1 (S d0 : D) (h : rv (m_f_law_pool [S]) = .ok d0) : s_law_1 [some S, none, none, none, none, none, none, none, none, none, none, none, none, none, none] = .ok (.nx, [some S, some d0, none, none, none, none, none, none, none, none, none, none, none, none, none]) := by
  unfold s_law_1
  cases hh : m_f_law_pool [S] with
  | ok q =>
    obtain ⟨a, b⟩ := q
    rw [hh] at h
    cases h
    simp [hh]
  | exc x => rw [hh] at h; cases h
  | bad => rw [hh] at h; cases h
theorem st2 (S d0 d1 d2 x : D) (v1 v2 : Int) (e1 : m_f_law_draw [d0, .int 6] = .ok (.int v1, [d1, .int 6])) (e2 : m_f_law_draw [d1, .int 4] = .ok (.int v2, [d2, .int 4])) (hr : rv (m_f_law_ratio [.int (1 + v1), .int (1 + v2)]) = .ok x) :
    s_law_2 [some S, some d0, none, none, none, none, none, none, none, none, none, none, none, none, none] = .ok (.nx, [some S, some d2, some x, none, none, none, none, none, none, none, none, none, none, none, none]) := by
  unfold s_law_2
  simp [e1, e2, hr]
theorem st3 (S d0 d1 d2 x y : D) (v1 v2 : Int) (e1 : m_f_law_draw [d0, .int 60] = .ok (.int v1, [d1, .int 60])) (e2 : m_f_law_draw [d1, .int 3] = .ok (.int v2, [d2, .int 3])) (hr : rv (m_f_law_ratio [.int (1 + v1), .int (1 + v2)]) = .ok y) :
    s_law_3 [some S, some d0, some x, none, none, none, none, none, none, none, none, none, none, none, none] = .ok (.nx, [some S, some d2, some x, some y, none, none, none, none, none, none, none, none, none, none, none]) := by
  unfold s_law_3
  simp [e1, e2, hr]
theorem st4 (S d0 d1 x y : D) (v1 : Int) (e1 : m_f_law_draw [d0, .int 9] = .ok (.int v1, [d1, .int 9])) :
    s_law_4 [some S, some d0, some x, some y, none, none, none, none, none, none, none, none, none, none, none] = .ok (.nx, [some S, some d1, some x, some y, some (.int (1 + v1)), none, none, none, none, none, none, none, none, none, none]) := by
  unfold s_law_4
  simp [e1]
theorem st5 (S d0 d1 x y y' z : D) (t v1 : Int) (e1 : m_f_law_draw [d0, .int 3] = .ok (.int v1, [d1, .int 3])) (hr : rv (m_f_law_mul [x, .tup [.int t, .int 1]]) = .ok y') (hz : z = if v1 = 0 then y' else y) :
    s_law_5 [some S, some d0, some x, some y, some (.int t), none, none, none, none, none, none, none, none, none, none] = .ok (.nx, [some S, some d1, some x, some z, some (.int t), none, none, none, none, none, none, none, none, none, none]) := by
  unfold s_law_5
  subst hz
  by_cases c : v1 = 0 <;> simp [e1, c, hr]
theorem st6 (S d0 d1 d2 x y t : D) (L v : Int) (e1 : m_f_law_pick [d0, .lst [.int 3, .int 12, .int 40]] = .ok (.int L, [d1, .lst [.int 3, .int 12, .int 40]])) (e2 : m_f_law_draw [d1, .int L] = .ok (.int v, [d2, .int L])) :
    s_law_6 [some S, some d0, some x, some y, some t, none, none, none, none, none, none, none, none, none, none] = .ok (.nx, [some S, some d2, some x, some y, some t, some (.int (1 + v)), none, none, none, none, none, none, none, none, none]) := by
  unfold s_law_6
  simp [e1, e2]
theorem st8 (S d x y t e : D) (a b c : Option D) : s_law_8 [some S, some d, some x, some y, some t, some e, a, b, c, none, none, none, none, none, none] = .ok (.nx, [some S, some d, some x, some y, some t, some e, a, b, c, some (.lst []), none, none, none, none, none]) := by
  unfold s_law_8
  simp
theorem st9 (S d x y t e f : D) (a b c : Option D) : s_law_9 [some S, some d, some x, some y, some t, some e, a, b, c, some f, none, none, none, none, none] = .ok (.nx, [some S, some d, some x, some y, some t, some e, a, b, c, some f, some (.dic false []), none, none, none, none]) := by
  unfold s_law_9
  simp
/-- the pays and the ratio of a day -/
theorem turn1 (S d0 d1 d2 x y t P R' : D) (days v w i : Int) (a b c : Option D) (e1 : m_f_law_draw [d0, .int (days + 1)] = .ok (.int v, [d1, .int (days + 1)])) (e2 : m_f_law_draw [d1, .int days] = .ok (.int w, [d2, .int days]))
    (h1 : rv (m_pays [x, y, .int (1 + v), .int (1 + w)]) = .ok P) (h2 : rv (m_f_law_pays [x, y, .int (1 + v), .int (1 + w)]) = .ok P) (h3 : rv (m_ratio [x, y, .int (1 + v), .int (1 + w)]) = .ok R') (h4 : rv (m_f_law_quotient [x, y, .int (1 + v), .int (1 + w)]) = .ok R')
    (hs : rv (m_f_law_same 8 [.lst [P, R'], .lst [P, R']]) = .ok (.bl true)) :
    l_law_1 [some S, some d0, some x, some y, some t, some (.int days), some (.int i), b, c, none, none, none, none, none, none] = .ok (.nx, [some S, some d2, some x, some y, some t, some (.int days), some (.int i), some (.tup [.int (1 + v), .int (1 + w)]), some (.lst [P, R']), none, none, none, none, none, none]) := by
  unfold l_law_1
  simp [e1, e2, h1, h2, h3, h4, hs]
theorem st11 (S d x y t b f g : D) (a : Option D) (days : Int) (z w : D) (p q : Option D) (h : rv (m_best_rent [x, y, .int days]) = .ok z) :
    s_law_11 [some S, some d, some x, some y, some t, some (.int days), a, some b, some f, some g, some w, p, q, none, none] = .ok (.nx, [some S, some d, some x, some y, some t, some (.int days), a, some b, some z, some g, some w, p, q, none, none]) := by
  unfold s_law_11
  simp [h]
theorem st12 (S d x y t days b g z w u k : D) (a : Option D) (p q : Option D) (hz : z = .tup [u, k, w]) (hg : g = .lst [u, k]) (hs : rv (m_f_law_same 8 [z, z]) = .ok (.bl true)) (hl : rv (m_f_law_less [.tup [.int 2, .int 1], u]) = .ok (.bl false)) :
    s_law_12 [some S, some d, some x, some y, some t, some days, a, some b, some z, some g, some w, p, q, none, none] = .ok (.nx, [some S, some d, some x, some y, some t, some days, a, some b, some z, some g, some w, p, q, none, none]) := by
  subst hz
  subst hg
  unfold s_law_12
  simp [hs, hl]
theorem st13 (S d x y y' b g w u k u' : D) (a : Option D) (t days : Int) (c1 : Bool) (p q : Option D) (hm : rv (m_f_law_mul [x, .tup [.int t, .int 1]]) = .ok y') (he : eqD y y' = .ok c1) (ht : t.natAbs < 100)
    (hn : c1 = true → 2 * t - 1 ≤ days → rv (m_f_law_ratio [.int (2 * t - 1), .int t]) = .ok u' ∧ neD u u' = .ok false) :
    s_law_13 [some S, some d, some x, some y, some (.int t), some (.int days), a, some b, some (.tup [u, k, w]), some g, some w, p, q, none, none] = .ok (.nx, [some S, some d, some x, some y, some (.int t), some (.int days), a, some b, some (.tup [u, k, w]), some g, some w, p, q, none, none]) := by
  have m : mulD (.int 2) (.int t) = .ok (.int (2 * t)) := mulD_int (mul_small (by decide))
  unfold s_law_13
  cases c1 with
  | false => simp [hm, he]
  | true =>
    by_cases c : 2 * t - 1 ≤ days
    · obtain ⟨h1, h2⟩ := hn rfl c
      simp [hm, he, m, c, h1, h2]
    · simp [hm, he, m, c]
theorem turn3 (S d0 d1 d2 x y t b f g w u k m n q r' : D) (days i : Int) (bb : Bool) (p1 p2 p3 p4 : Option D) (hn : m_f_law_next [d0] = .ok (.non, [d1]))
    (hp : (i = 0 ∧ d2 = d1 ∧ m = u ∧ n = k ∧ q = w) ∨ (i ≠ 0 ∧ m_f_law_bent [d1, .int days, .tup [u, k, w]] = .ok (.lst [m, n, q], [d2, .int days, .tup [u, k, w]])))
    (hd : dictD q = .ok q) (h1 : rv (m_f_law_right [x, y, .int days, m, n, q]) = .ok (.bl bb)) (h2 : rv (m_judge_rent [x, y, .int days, m, n, q]) = .ok (.bl bb)) (hs : rv (m_f_law_same 8 [.bl bb, .bl bb]) = .ok (.bl true)) :
    l_law_3 [some S, some d0, some x, some y, some t, some (.int days), some (.int i), some b, some (.tup [u, k, w]), some g, some f, p1, p2, p3, p4] = .ok (.nx, [some S, some d2, some x, some y, some t, some (.int days), some (.int i), some b, some (.tup [u, k, w]), some g, some f, p1, p2, some (.lst [m, n, q]), some (.bl bb)]) := by
  have hlist : listD (.tup [u, k, w]) = .ok (.lst [u, k, w]) := rfl
  unfold l_law_3
  rcases hp with ⟨rfl, rfl, rfl, rfl, rfl⟩ | ⟨hi, hb⟩
  · simp [hn, hd, h1, h2, hs, hlist]
  · simp [hn, hd, h1, h2, hs, hb, hi]
end DL.G
namespace DL.G
open PySem PySem.Spec L2
set_option autoImplicit false
theorem pl_fr (n : Nat) (a : Rat) : PlD (n + 2) (frD a) := by
  refine ⟨by simp, fun x hx => ?_⟩
  simp only [List.mem_cons, List.not_mem_nil, or_false] at hx
  rcases hx with rfl | rfl <;> trivial
def wsOf (r p : Rat) (days : Int) (n : Nat) : List (Int × Int) := (List.range n).map fun (i : Nat) => (1 + (i : Int), mS r p days (1 + (i : Int)))
theorem wD_ws (r p : Rat) (days : Int) (n : Nat) : wD r p days n = wsD (wsOf r p days n) := by
  unfold wD wsD wsOf
  rw [List.map_map]
  rfl
theorem wsOf_len (r p : Rat) (days : Int) (n : Nat) : (wsOf r p days n).length = n := by unfold wsOf; rw [List.length_map, List.length_range]
theorem wsOf_mem (r p : Rat) (days : Int) (n : Nat) (i : Int) (h1 : 1 ≤ i) (h2 : i ≤ n) : i ∈ (wsOf r p days n).map (·.1) := by
  unfold wsOf
  rw [List.map_map]
  exact List.mem_map.mpr ⟨(i - 1).toNat, List.mem_range.mpr (by omega), by show 1 + (((i - 1).toNat : Nat) : Int) = i; omega⟩
theorem look_nodup : ∀ (ws : List (Int × Int)), (ws.map (·.1)).Nodup → ∀ q ∈ ws, lookD (wsD ws) (.int q.1) = some (.int q.2)
  | [], _, q, h => by cases h
  | a :: ws, hn, q, h => by
    show (if kEq (.int a.1) (.int q.1) = true then some (D.int a.2) else lookD (wsD ws) (.int q.1)) = _
    rw [kEq_int]
    rw [List.map_cons, List.nodup_cons] at hn
    rcases List.mem_cons.mp h with e | h
    · subst e
      rw [if_pos (by simp)]
    · rw [if_neg, look_nodup ws hn.2 q h]
      intro z
      have z' : a.1 = q.1 := by simpa using z
      exact hn.1 (by rw [z']; exact List.mem_map_of_mem h)
theorem wsOf_nodup (r p : Rat) (days : Int) (n : Nat) : ((wsOf r p days n).map (·.1)).Nodup := by
  unfold wsOf
  rw [List.map_map]
  refine List.pairwise_map.mpr ((List.nodup_range (n := n)).imp fun {a b} h k => ?_)
  have k' : 1 + (a : Int) = 1 + (b : Int) := k
  omega
theorem pl_ws (r p : Rat) (days : Int) {n : Nat} (h : n ≤ 1000) (k : Nat) : PlD (k + 2) (.dic false (wD r p days n)) := by
  rw [wD_ws]
  refine ⟨by unfold wsD; rw [List.length_map, wsOf_len]; exact h, fun q hq => ?_⟩
  unfold wsD at hq
  obtain ⟨z, hz, e⟩ := List.mem_map.mp hq
  subst e
  exact ⟨⟨z.1, rfl⟩, look_nodup _ (wsOf_nodup r p days n) z hz, trivial⟩
theorem loop1 {r p : Rat} (h : Rp r p) {days : Int} (hd : 1 ≤ days) (hd2 : days ≤ 41) (ns : List Int) (S t d0 : D) (p0 : PoolOk ns d0) :
    ∃ d a b c, s_law_7 [some S, some d0, some (frD r), some (frD p), some t, some (.int days), none, none, none, none, none, none, none, none, none] = .ok (.nx, [some S, some d, some (frD r), some (frD p), some t, some (.int days), some a, some b, some c, none, none, none, none, none, none]) ∧ PoolOk ns d := by
  have e : rng1D (.int 3) = .ok (rngL 0 3) := rng1_ok (by decide)
  obtain ⟨ρ', q1, q2⟩ := for_rng (t := gSet 6) (b := l_law_1) 0 3 (fun n ρ => ∃ d a b c, ρ = [some S, some d, some (frD r), some (frD p), some t, some (.int days), a, b, c, none, none, none, none, none, none] ∧ PoolOk ns d ∧ (0 < n → ∃ a' b' c', a = some a' ∧ b = some b' ∧ c = some c')) [some S, some d0, some (frD r), some (frD p), some t, some (.int days), none, none, none, none, none, none, none, none, none] ⟨d0, none, none, none, rfl, p0, fun z => absurd z (by decide)⟩ fun n ρ hn ⟨d, a, b, c, hρ, pd, _⟩ => by
    subst hρ
    obtain ⟨v, d1, e1, p1, va, vb⟩ := draw_ok (L := days + 1) pd (by omega) (by omega)
    obtain ⟨w, d2, e2, p2, wa, wb⟩ := draw_ok (L := days) p1 (by omega) (by omega)
    have hs : rv (m_f_law_same 8 [.lst [frD (payS r p (1 + v) (1 + w)), frD (ratS r p (1 + v) (1 + w))], .lst [frD (payS r p (1 + v) (1 + w)), frD (ratS r p (1 + v) (1 + w))]]) = .ok (.bl true) := same_refl 8 _ ⟨by simp, fun x hx => by
      simp only [List.mem_cons, List.not_mem_nil, or_false] at hx
      rcases hx with rfl | rfl
      · exact pl_fr 5 _
      · exact pl_fr 5 _⟩
    refine ⟨_, _, rfl, turn1 S d d1 d2 (frD r) (frD p) t _ _ days v w _ a b c e1 e2 (pays_ok h (by omega) (by omega)) (lpays_ok h (by omega) (by omega)) (ratio_ok h (by omega) (by omega) (by omega)) (lquot_ok h (by omega) (by omega) (by omega)) hs, _, _, _, _, rfl, p2, fun _ => ⟨_, _, _, rfl, rfl, rfl⟩⟩
  obtain ⟨d, a, b, c, hρ, pd, hh⟩ := q2
  obtain ⟨a', b', c', rfl, rfl, rfl⟩ := hh (by decide)
  subst hρ
  refine ⟨d, a', b', c', ?_, pd⟩
  unfold s_law_7
  generalize frD r = x at q1 ⊢
  generalize frD p = y at q1 ⊢
  generalize rngL 0 3 = l at e q1
  simp [e, q1]
theorem loop3 {r p : Rat} (h : Rp r p) {days : Int} (hd : 1 ≤ days) (hd2 : days ≤ 41) (ns : List Int) (S t d0 b g f : D) (a : Option D) {Q : Rat} {K : Int} (hQ : Bd 31 Q) (z1 z2 : Option D) (p0 : PoolOk ns d0) :
    ∃ ρ', s_law_14 [some S, some d0, some (frD r), some (frD p), some t, some (.int days), a, some b, some (.tup [frD Q, .int K, .dic false (wD r p days (days + 1).toNat)]), some g, some f, z1, z2, none, none] = .ok (.nx, ρ') := by
  have e : rng1D (.int 5) = .ok (rngL 0 5) := rng1_ok (by decide)
  have ww := wD_ws r p days (days + 1).toNat
  have wl := wsOf_len r p days (days + 1).toNat
  have wm := wsOf_mem r p days (days + 1).toNat
  generalize wsOf r p days (days + 1).toNat = ws at ww wl wm
  rw [ww]
  obtain ⟨ρ', q1, q2⟩ := for_rng (t := gSet 6) (b := l_law_3) 0 5 (fun n ρ => ∃ d a p3 p4, ρ = [some S, some d, some (frD r), some (frD p), some t, some (.int days), a, some b, some (.tup [frD Q, .int K, .dic false (wsD ws)]), some g, some f, z1, z2, p3, p4] ∧ PoolOk ns d) [some S, some d0, some (frD r), some (frD p), some t, some (.int days), a, some b, some (.tup [frD Q, .int K, .dic false (wsD ws)]), some g, some f, z1, z2, none, none] ⟨d0, a, none, none, rfl, p0⟩ fun n ρ hn ⟨d, a, p3, p4, hρ, pd⟩ => by
    subst hρ
    obtain ⟨d1, en, p1⟩ := next_ok pd
    by_cases c : (0 : Int) + n = 0
    · obtain ⟨bb, j1, j2⟩ := judge_eq h hd hd2 (hQ.mono (show 31 ≤ 40 by decide)) (k := K) (ws := ws) (by omega)
      exact ⟨_, _, rfl, turn3 S d d1 d1 (frD r) (frD p) t b f g _ _ _ _ _ _ .non days _ bb z1 z2 p3 p4 en (.inl ⟨c, rfl, rfl, rfl, rfl⟩) rfl j2 j1 (same_bl 7 bb), _, _, _, _, rfl, p1⟩
    · obtain ⟨num, k, ws', d2, eb, p2, hnum, hl⟩ := bent_ok p1 hd hd2 hQ (K := K) (ws := ws) (by omega) (fun i h1 h2 => wm i h1 (by omega))
      obtain ⟨bb, j1, j2⟩ := judge_eq h hd hd2 hnum (k := k) (ws := ws') hl
      exact ⟨_, _, rfl, turn3 S d d1 d2 (frD r) (frD p) t b f g _ _ _ _ _ _ .non days _ bb z1 z2 p3 p4 en (.inr ⟨c, eb⟩) rfl j2 j1 (same_bl 7 bb), _, _, _, _, rfl, p2⟩
  refine ⟨ρ', ?_⟩
  unfold s_law_14
  generalize frD r = x at q1 ⊢
  generalize frD p = y at q1 ⊢
  generalize frD Q = z at q1 ⊢
  generalize wsD ws = w at q1 ⊢
  generalize rngL 0 5 = l at e q1
  simp [e, q1]
theorem divInt_pos {a b : Int} (ha : 0 < a) (hb : 0 < b) : 0 < Rat.divInt a b := by
  rw [Rat.divInt_eq_div]
  exact (Rat.lt_div_iff (cast_pos hb)).mpr (by rw [Rat.zero_mul]; exact cast_pos ha)
theorem eq_fr (a b : Rat) : eqD (frD a) (frD b) = .ok (decide (a = b)) := by
  show eqD (.tup [.int a.num, .int (a.den : Int)]) (.tup [.int b.num, .int (b.den : Int)]) = _
  rw [eqD_pair]
  congr 1
  by_cases c : a = b
  · subst c; simp
  · rw [decide_eq_false c]
    by_cases c1 : a.num = b.num
    · have c2 : ¬ ((a.den : Int) = (b.den : Int)) := fun z => c (Rat.ext c1 (by omega))
      rw [decide_eq_false c2, Bool.and_false]
    · rw [decide_eq_false c1, Bool.false_and]
theorem law_ok (ns : List Int) : rv (m_law [.lst (ns.map .int)]) = .ok (.bl true) := by
  obtain ⟨d0, e0, p0⟩ := pool_ok ns
  obtain ⟨v1, d1, e1, p1, a1, b1⟩ := draw_ok (L := 6) p0 (by decide) (by decide)
  obtain ⟨v2, d2, e2, p2, a2, b2⟩ := draw_ok (L := 4) p1 (by decide) (by decide)
  obtain ⟨v3, d3, e3, p3, a3, b3⟩ := draw_ok (L := 60) p2 (by decide) (by decide)
  obtain ⟨v4, d4, e4, p4, a4, b4⟩ := draw_ok (L := 3) p3 (by decide) (by decide)
  obtain ⟨v5, d5, e5, p5, a5, b5⟩ := draw_ok (L := 9) p4 (by decide) (by decide)
  obtain ⟨v6, d6, e6, p6, a6, b6⟩ := draw_ok (L := 3) p5 (by decide) (by decide)
  obtain ⟨L0, d7, e7, p7, hL⟩ := pick_ok (xs := [.int 3, .int 12, .int 40]) p6 (by decide) (by decide)
  obtain ⟨L, rfl, L1, L2⟩ : ∃ L : Int, L0 = .int L ∧ 1 ≤ L ∧ L ≤ 40 := by
    simp only [List.mem_cons, List.not_mem_nil, or_false] at hL
    rcases hL with rfl | rfl | rfl
    · exact ⟨_, rfl, by decide, by decide⟩
    · exact ⟨_, rfl, by decide, by decide⟩
    · exact ⟨_, rfl, by decide, by decide⟩
  obtain ⟨v8, d8, e8, p8, a8, b8⟩ := draw_ok (L := L) p7 (by omega) (by omega)
  have f1 := lratio_ok (p := 1 + v1) (q := 1 + v2) (by omega) (by omega)
  have f2 := lratio_ok (p := 1 + v3) (q := 1 + v4) (by omega) (by omega)
  have rb : Bd 4 (Rat.divInt (1 + v1) (1 + v2)) := frac_bd (by omega) (by omega) (by omega)
  have pb : Bd 6 (Rat.divInt (1 + v3) (1 + v4)) := frac_bd (by omega) (by omega) (by omega)
  have r0 : 0 < Rat.divInt (1 + v1) (1 + v2) := divInt_pos (by omega) (by omega)
  have pp0 : 0 < Rat.divInt (1 + v3) (1 + v4) := divInt_pos (by omega) (by omega)
  generalize hr : Rat.divInt (1 + v1) (1 + v2) = r at f1 rb r0
  generalize hp : Rat.divInt (1 + v3) (1 + v4) = q at f2 pb pp0
  generalize ht : 1 + v5 = t
  have tb : Bd 4 (t : Rat) := int_bd (by omega) (by decide)
  have fm : rv (m_f_law_mul [frD r, .tup [.int t, .int 1]]) = .ok (frD (r * (t : Rat))) := by
    rw [int_fr]; exact lmul_ok rb tb (by decide) (by decide)
  obtain ⟨p, hpe⟩ : ∃ p, p = if v6 = 0 then r * (t : Rat) else q := ⟨_, rfl⟩
  have h : Rp r p := by
    refine ⟨rb, ?_, r0, ?_⟩
    · rw [hpe]; split
      · exact mul_bd rb tb
      · exact pb.mono (by decide)
    · rw [hpe]; split
      · exact Rat.mul_pos r0 (cast_pos (by omega))
      · exact pp0
  have hz : frD p = if v6 = 0 then frD (r * (t : Rat)) else frD q := by rw [hpe]; split <;> rfl
  generalize hdays : 1 + v8 = days
  have hd : 1 ≤ days := by omega
  have hd2 : days ≤ 41 := by omega
  obtain ⟨d9, x6, x7, x8, g1, p9⟩ := loop1 h hd hd2 ns (.lst (ns.map .int)) (.int t) d8 p8
  obtain ⟨y6, y11, y12, g2⟩ := lbest_loop h hd hd2 (.lst (ns.map .int)) d9 (.int t) x7 x8 .non (some x6) (some x7) (some x8) none none none none rfl rfl
  have er : rng2D (.int 1) (.int (days + 2)) = .ok (rngL 1 (days + 2)) := rng2_ok (by decide) (by omega)
  obtain ⟨Q, K, hb⟩ : ∃ Q K, bS (gS r p days) (days + 1).toNat = some (Q, K) := by
    obtain ⟨n, hn⟩ : ∃ n, (days + 1).toNat = n + 1 := ⟨days.toNat, by omega⟩
    rw [hn]
    exact bS_some _ n
  rw [hb] at g2
  have hbo := best_ok h hd hd2 hb
  obtain ⟨q1, q2, q3⟩ := bS_mem hb
  have hQ : Bd 31 Q := by rw [q1]; exact gS_bd h hd (by omega) (by omega) (by omega)
  have s10 : s_law_10 [some (.lst (ns.map .int)), some d9, some (frD r), some (frD p), some (.int t), some (.int days), some x6, some x7, some x8, some (.lst []), some (.dic false []), none, none, none, none] = .ok (.nx, [some (.lst (ns.map .int)), some d9, some (frD r), some (frD p), some (.int t), some (.int days), y6, some x7, some x8, some (.lst [frD Q, .int K]), some (.dic false (wD r p days (days + 1).toNat)), y11, y12, none, none]) := by
    have g2' : forM (gSet 6) l_law_2 (rngL 1 (days + 2)) [some (.lst (ns.map .int)), some d9, some (frD r), some (frD p), some (.int t), some (.int days), some x6, some x7, some x8, some (.lst []), some (.dic false []), none, none, none, none] = .ok (.nx, [some (.lst (ns.map .int)), some d9, some (frD r), some (frD p), some (.int t), some (.int days), y6, some x7, some x8, some (.lst [frD Q, .int K]), some (.dic false (wD r p days (days + 1).toNat)), y11, y12, none, none]) := g2
    generalize frD r = a at g2' ⊢
    generalize frD p = b at g2' ⊢
    generalize frD Q = c at g2' ⊢
    generalize wD r p days (days + 1).toNat = e at g2' ⊢
    generalize rngL 1 (days + 2) = l at er g2'
    generalize D.lst (ns.map .int) = S at g2' ⊢
    unfold s_law_10
    simp [er, g2']
  have two : D.tup [.int 2, .int 1] = frD ((2 : Int) : Rat) := int_fr 2
  have hle : rv (m_f_law_less [.tup [.int 2, .int 1], frD Q]) = .ok (.bl false) := by
    rw [two, lless_ok (int_bd (b := 4) (m := 2) (by decide) (by decide)) hQ (by decide) (by decide)]
    have : ¬ ((2 : Int) : Rat) < Q := Rat.not_lt.mpr (best_le_two h hd hb)
    rw [decide_eq_false this]
  have hpl : PlD 8 (.tup [frD Q, .int K, .dic false (wD r p days (days + 1).toNat)]) := ⟨by simp, fun x hx => by
    simp only [List.mem_cons, List.not_mem_nil, or_false] at hx
    rcases hx with rfl | rfl | rfl
    · exact pl_fr 5 _
    · trivial
    · exact pl_ws r p days (by omega) 5⟩
  have hsm := same_refl 8 _ hpl
  have heq := eq_fr p (r * (t : Rat))
  have hneu : decide (p = r * (t : Rat)) = true → 2 * t - 1 ≤ days → rv (m_f_law_ratio [.int (2 * t - 1), .int t]) = .ok (frD (Rat.divInt (2 * t - 1) t)) ∧ neD (frD Q) (frD (Rat.divInt (2 * t - 1) t)) = .ok false := fun c1 c2 => by
    have c1' : p = r * (t : Rat) := of_decide_eq_true c1
    subst c1'
    refine ⟨lratio_ok (by omega) (by omega), ?_⟩
    have : Q = Rat.divInt (2 * t - 1) t := by
      rw [best_t h (by omega) c2 hb, Rat.divInt_eq_div]
    unfold neD
    rw [eq_fr, decide_eq_true this]
    rfl
  obtain ⟨ρ', g3⟩ := loop3 h hd hd2 ns (.lst (ns.map .int)) (.int t) d9 x7 (.lst [frD Q, .int K]) (.dic false (wD r p days (days + 1).toNat)) y6 hQ (K := K) y11 y12 p9
  have q1 := st1 _ _ e0
  have q2 := st2 (.lst (ns.map .int)) d0 d1 d2 (frD r) v1 v2 e1 e2 f1
  have q3 := st3 (.lst (ns.map .int)) d2 d3 d4 (frD r) (frD q) v3 v4 e3 e4 f2
  have q4 := st4 (.lst (ns.map .int)) d4 d5 (frD r) (frD q) v5 e5
  have q5 := st5 (.lst (ns.map .int)) d5 d6 (frD r) (frD q) (frD (r * (t : Rat))) (frD p) t v6 e6 fm hz
  have q6 := st6 (.lst (ns.map .int)) d6 d7 d8 (frD r) (frD p) (.int t) L v8 e7 e8
  have q8 := st8 (.lst (ns.map .int)) d9 (frD r) (frD p) (.int t) (.int days) (some x6) (some x7) (some x8)
  have q9 := st9 (.lst (ns.map .int)) d9 (frD r) (frD p) (.int t) (.int days) (.lst []) (some x6) (some x7) (some x8)
  have q11 := st11 (.lst (ns.map .int)) d9 (frD r) (frD p) (.int t) x7 x8 (.lst [frD Q, .int K]) y6 days _ (.dic false (wD r p days (days + 1).toNat)) y11 y12 hbo
  have q12 := st12 (.lst (ns.map .int)) d9 (frD r) (frD p) (.int t) (.int days) x7 (.lst [frD Q, .int K]) _ (.dic false (wD r p days (days + 1).toNat)) (frD Q) (.int K) y6 y11 y12 rfl rfl hsm hle
  have q13 := st13 (.lst (ns.map .int)) d9 (frD r) (frD p) (frD (r * (t : Rat))) x7 (.lst [frD Q, .int K]) (.dic false (wD r p days (days + 1).toNat)) (frD Q) (.int K) (frD (Rat.divInt (2 * t - 1) t)) y6 t days _ y11 y12 fm heq (by omega) hneu
  rw [ht] at q4
  rw [hdays] at q6
  generalize frD r = A at *
  generalize frD p = B at *
  generalize frD Q = C at *
  generalize frD q = E at *
  generalize frD (r * (t : Rat)) = G at *
  generalize wD r p days (days + 1).toNat = W at *
  generalize D.lst (ns.map .int) = S at *
  unfold m_law
  rw [rv_fn, b_law_eq]
  have i0 : initEv 15 [S] = [some S, none, none, none, none, none, none, none, none, none, none, none, none, none, none] := rfl
  rw [i0]
  simp only [ap_seq, q1, q2, q3, q4, q5, q6, g1, q8, q9, s10, q11, q12, q13, g3]
  unfold s_law_15
  rfl
theorem law_fin (ns : List Int) : ∃ l, m_law [.lst (ns.map .int)] = .ok (.bl true, l) := by
  have h := law_ok ns
  cases e : m_law [.lst (ns.map .int)] with
  | ok q =>
    obtain ⟨d, l⟩ := q
    rw [e] at h
    cases h
    exact ⟨l, rfl⟩
  | exc x => rw [e] at h; cases h
  | bad => rw [e] at h; cases h
end DL.G
/-! ### the head -/
namespace DL.G
open PySem PySem.Spec PyProof.Rows L2
abbrev Rw : PySem.W.OpenRow := PySem.W.OpenLaw.row PySem.Challenge.rw_pairsave_k80_whole_rent_or_buy
def hk : PySem.W.Hook := He.hookX 4 fa fn [] [] ex
def obs (s : PySem.W.SharedT) : He.AlX := He.obsX 4 fa fn [] [] ex (HandSHeadRun.getT s)
theorem obs_eq (s : PySem.W.SharedT) : obs s = hk.obs s.abs := He.obsX_eq (HandSHeadRun.getT_eq s)
def loose : List Str := (["gcd", "frac", "plus", "times", "over", "less", "least", "pays", "ratio", "worst_of", "best_rent", "judge_rent", "_law_mixed", "_law_rest", "_law_pool", "_law_next", "_law_draw", "_law_pick", "_law_same", "_law_gcd", "_law_ratio", "_law_add", "_law_mul", "_law_less", "_law_low", "_law_over", "_law_pays", "_law_quotient", "_law_worst", "_law_right"] : List Str) ++ (["_law_bent"] : List Str)
theorem run (w : World) : HandSHeadRun.RunEqI Rw (PySem.W.view Rw.prog [0, 35]) hk obs 2000 loose w := by
  show (HandSHeadRun.wholeF _ _ _ _).map _ = _
  kernel_rfl
/-- the law's argument, a list of ints -/
theorem args_ok {K : Frag} {H : Hp} {a : Addr} {ns : List Int} (h : SqL K H a (ns.map V.int)) : ∃ F, AOk K F H [false] [.lst (ns.map .int)] [.ref a] := by
  have key : ∀ F : Hp, (∀ b u, F b = some u → Rd' H b u) → LAt K F a (ns.map V.int) → AOk K F H [false] [.lst (ns.map .int)] [.ref a] := fun F hs hl => by
    refine ⟨rfl, rfl, hs, fun i d h1 h2 => ?_, fun i d h1 h2 => ?_, fun i j b hne h1 h2 h3 h4 => ?_⟩
    · cases i with
      | zero => cases h2; exact ⟨.ref a, rfl, a, _, rfl, hl, Reps.ints⟩
      | succ i => simp at h2
    · cases i with
      | zero => cases h1
      | succ i => simp at h1
    · cases i with
      | zero => cases h1
      | succ i => simp at h1
  rcases h with h | h
  · refine ⟨fun b => if b = a then some (.lst (ns.map V.int)) else none, key _ (fun b u e => ?_) (.inl (if_pos rfl))⟩
    try dsimp only at e
    split at e
    · rename_i hb
      subst hb
      cases e
      rcases h with h | ⟨o, h⟩
      · exact .inl h
      · exact .inr ⟨trivial, o, h⟩
    · cases e
  · exact ⟨fun _ => none, key _ (fun b u e => by cases e) (.inr h)⟩
end DL.G
open PySem PySem.W PySem.Calls PyProof.Rows
theorem PySem.Challenge.cw_pairsave_k80_whole_rent_or_buy_holds : PySem.Challenge.rw_pairsave_k80_whole_rent_or_buy.Holds := by
  w_on; o_law
  refine HandSHeadRun.head_imp (r := OpenLaw.row PySem.Challenge.rw_pairsave_k80_whole_rent_or_buy) (q := view (OpenLaw.row PySem.Challenge.rw_pairsave_k80_whole_rent_or_buy).prog [0, 35]) (H := DL.G.hk) (ob := DL.G.obs) (M := 2000) (loose := DL.G.loose) (d := HandSHeadRun.topDef (OpenLaw.row PySem.Challenge.rw_pairsave_k80_whole_rent_or_buy).prog 35) (kwd := []) DL.G.obs_eq
    DL.G.run (by kernel_rfl) (by kernel_rfl) (by kernel_rfl) (by rfl) (by first | assumption | decide +kernel) (by decide +kernel) ⟨rfl, rfl, rfl, rfl, rfl, by decide +kernel⟩ ?hw ?hc
  case hw => w_witness2
  case hc =>
    refine L2.walk_ofE (l := PySem.Challenge.rw_pairsave_k80_whole_rent_or_buy) (n := 63) (k := 10) (x := "script") (CX := L2.CX0) rfl (by decide) (by kernel_rfl) ⟨rfl, by decide, by decide⟩ ?F (fun _ _ _ _ z => z)
    intro w mg fa h Y G hmg0
    obtain ⟨K, KX, c⟩ := Y
    have hmg : mg ("law" : PySem.Str) = some (.ref fa) := by
      have e : (HandSHeadRun.topDef (OpenLaw.row PySem.Challenge.rw_pairsave_k80_whole_rent_or_buy).prog 35).name = ("law" : PySem.Str) := by kernel_rfl
      rw [← e]
      exact hmg0
    have B : DL.Base DL.G.fa DL.G.fn DL.G.ex K mg := ⟨⟨h, KX, G⟩, c.t.d, c.more⟩
    obtain ⟨fd, F⟩ := c.t.d.def_ 30 (d := DL.mkD "law" (DL.G.top 35)) rfl
    have e := hmg.symm.trans (B.glo 30 rfl)
    cases e
    have b := L2.FunD.bindsA (ps := ["script"]) F fun _ _ _ _ _ _ us hl => match us, hl with | [_], _ => rfl
    refine ⟨K, fd, DL.spD K [false] false DL.G.m_law, KX, fun s v => b s [v] rfl, fun H a ns hl _ hS => ?_, fun base _ _ => DL.G.fn_law B F⟩
    obtain ⟨F0, ha⟩ := DL.G.args_ok hS
    obtain ⟨l, hv⟩ := DL.G.law_fin ns
    refine ⟨F0, _, ha, ?_⟩
    rw [hv]
    intro v F' H' pk
    exact pk.ret
