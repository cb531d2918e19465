import PyProof.Rows.All
import Wide.All
import OpenK.AllK
import Wide.FinOn
import HandS.ForMost
import HandS.Flow
import KE.KeyNested
import KE.KDictKeyed
import HandS.TupAny
import HandS.TupMul
import PyProof.ListMulRoad
import HandS.Deep
import HandS.Wide
import KE.DataCmp
import HandS.IsInst
import PyProof.ReprReads
import KE.SortData
import HandS.Ends
import HandS.Style
import PyProof.P3Eq
import PyProof.Rows.StrRev
import HandS.AnyAll
import PyProof.GenCompD
import PyProof.P3In
import HandS.EndTab
import HandS.EndOwn
import PySem.Challenge.RW_fromruns_k56_judged_derivations
set_option Elab.async false
set_option linter.all false
set_option maxRecDepth 100000
set_option maxHeartbeats 2000000
namespace Mir
open PySem PySem.Spec PyProof.Rows L2
abbrev D := PyData
/-- the world of a row: program, world, written part -/
structure Gx where
  P : Program
  w : World
  K : PySem.W.Frag
  tb : Addr → Prop
mutual
def keyOf : D → Option NestedKey
  | .none => some .none
  | .bool b => some (.num (if b = true then 1 else 0))
  | .int i => some (.num i)
  | .str x => some (.text x)
  | .tuple xs => (keysOf xs).map .tup
  | .list _ => none
  | .dict _ => none
def keysOf : List D → Option (List NestedKey)
  | [] => some []
  | x :: xs => match keyOf x, keysOf xs with
    | some k, some ks => some (k :: ks)
    | _, _ => none
end
/-- an entry of a dict: key, hash, value -/
structure DEn where
  k : V
  h : Int
  v : V
def dicO (a : Addr) (es : List DEn) : HO := .ext fun h => (a == sysModules) = false ∧ es.length ≤ sizeLine ∧
  ∃ (xs : Array DictEntry) (ep : Nat), h.DictRaw a xs ep ∧ Paired (fun (p : DEn) (q : DictEntry) => RelV p.k q.key ∧ p.h = q.hash ∧ RelV p.v q.val) es xs.toList
/-! v stands for the datum d, in the frozen heap F -/
mutual
inductive Rep (g : Gx) (F : Hp) : V → D → Prop
  | non : Rep g F .non .none
  | bl (b : Bool) : Rep g F (.bl b) (.bool b)
  | int (i : Int) : Rep g F (.int i) (.int i)
  | str (x : Str) : PyData.strOk x = true → x.length ≤ 16777216 → Rep g F (.str x) (.str x)
  | lst {a : Addr} {xs : List V} {ds : List D} : F a = some (.lst xs) → RepL g F xs ds → Rep g F (.ref a) (.list ds)
  | tup {a : Addr} {xs : List V} {ds : List D} : SqT g.K F a xs → RepL g F xs ds → Rep g F (.ref a) (.tuple ds)
  | dct {a : Addr} {es : List DEn} {kvs : List (D × D)} : F a = some (dicO a es) → (kvs.map fun p => keyOf p.1).Nodup → RepE g F es kvs → Rep g F (.ref a) (.dict kvs)
inductive RepL (g : Gx) (F : Hp) : List V → List D → Prop
  | nil : RepL g F [] []
  | cons {v : V} {vs : List V} {d : D} {ds : List D} : Rep g F v d → RepL g F vs ds → RepL g F (v :: vs) (d :: ds)
inductive RepE (g : Gx) (F : Hp) : List DEn → List (D × D) → Prop
  | nil : RepE g F [] []
  | cons {e : DEn} {es : List DEn} {k d : D} {nk : NestedKey} {kvs : List (D × D)} : Rep g F e.k k → keyOf k = some nk → e.h = nk.hash g.w → Rep g F e.v d → RepE g F es kvs → RepE g F (e :: es) ((k, d) :: kvs)
end
/-- every object of F stands in H -/
def Sub (F H : Hp) : Prop := ∀ a o, F a = some o → H a = some o
theorem Sub.refl (F : Hp) : Sub F F := fun _ _ h => h
theorem Sub.trans {F G H : Hp} (a : Sub F G) (b : Sub G H) : Sub F H := fun x o h => b x o (a x o h)
theorem sub_rd {F H : Hp} {a : Addr} {u : HO} (s : Sub F H) (h : Rd F a u) : Rd H a u := h.imp (s a _) fun ⟨o, q⟩ => ⟨o, s a _ q⟩
theorem sub_t {K : PySem.W.Frag} {F H : Hp} {a : Addr} {xs : List V} (s : Sub F H) (h : SqT K F a xs) : SqT K H a xs := h.imp (sub_rd s) id
theorem sub_l {K : PySem.W.Frag} {F H : Hp} {a : Addr} {xs : List V} (s : Sub F H) (h : SqL K F a xs) : SqL K H a xs := h.imp (sub_rd s) id
mutual
theorem Rep.mono {g : Gx} {F H : Hp} (s : Sub F H) : ∀ (d : D) (v : V), Rep g F v d → Rep g H v d
  | .none, _, h => by cases h; exact .non
  | .bool b, _, h => by cases h; exact .bl b
  | .int i, _, h => by cases h; exact .int i
  | .str x, _, h => by cases h with | str _ h k => exact .str x h k
  | .list ds, _, h => by cases h with | lst h1 h2 => exact .lst (s _ _ h1) (RepL.mono s ds _ h2)
  | .tuple ds, _, h => by cases h with | tup h1 h2 => exact .tup (sub_t s h1) (RepL.mono s ds _ h2)
  | .dict kvs, _, h => by cases h with | dct h1 h2 h3 => exact .dct (s _ _ h1) h2 (RepE.mono s kvs _ h3)
theorem RepL.mono {g : Gx} {F H : Hp} (s : Sub F H) : ∀ (ds : List D) (vs : List V), RepL g F vs ds → RepL g H vs ds
  | [], _, h => by cases h; exact .nil
  | d :: ds, _, h => by cases h with | cons h1 h2 => exact .cons (Rep.mono s d _ h1) (RepL.mono s ds _ h2)
theorem RepE.mono {g : Gx} {F H : Hp} (s : Sub F H) : ∀ (kvs : List (D × D)) (es : List DEn), RepE g F es kvs → RepE g H es kvs
  | [], _, h => by cases h; exact .nil
  | (k, d) :: kvs, _, h => by cases h with | cons h1 h2 h3 h4 h5 => exact .cons (Rep.mono s k _ h1) h2 h3 (Rep.mono s d _ h4) (RepE.mono s kvs _ h5)
end
theorem RepL.length {g : Gx} {F : Hp} : ∀ {vs : List V} {ds : List D}, RepL g F vs ds → vs.length = ds.length
  | _, _, .nil => rfl
  | _, _, .cons _ t => by simp [RepL.length t]
theorem RepE.length {g : Gx} {F : Hp} : ∀ {vs : List DEn} {ds : List (D × D)}, RepE g F vs ds → vs.length = ds.length
  | _, _, .nil => rfl
  | _, _, .cons _ _ _ _ t => by simp [RepE.length t]
theorem RepL.get {g : Gx} {F : Hp} : ∀ {vs : List V} {ds : List D} {i : Nat} {v : V}, RepL g F vs ds → vs[i]? = some v → ∃ d, ds[i]? = some d ∧ Rep g F v d
  | _, _, _, _, .nil, e => by simp at e
  | _, _, 0, _, .cons r _, e => by simp at e; subst e; exact ⟨_, rfl, r⟩
  | _, _, i + 1, x, .cons _ t, e => by
    obtain ⟨u, h1, h2⟩ := RepL.get (i := i) (v := x) t (by simpa using e)
    exact ⟨u, by simpa using h1, h2⟩
theorem RepL.getD {g : Gx} {F : Hp} : ∀ {vs : List V} {ds : List D} {i : Nat} {d : D}, RepL g F vs ds → ds[i]? = some d → ∃ v, vs[i]? = some v ∧ Rep g F v d
  | _, _, _, _, .nil, e => by simp at e
  | _, _, 0, _, .cons r _, e => by simp at e; subst e; exact ⟨_, rfl, r⟩
  | _, _, i + 1, x, .cons _ t, e => by
    obtain ⟨u, h1, h2⟩ := RepL.getD (i := i) (d := x) t (by simpa using e)
    exact ⟨u, by simpa using h1, h2⟩
theorem RepL.append {g : Gx} {F : Hp} : ∀ {vs ws : List V} {ds es : List D}, RepL g F vs ds → RepL g F ws es → RepL g F (vs ++ ws) (ds ++ es)
  | _, _, _, _, .nil, s => s
  | _, _, _, _, .cons r t, s => .cons r (RepL.append t s)
theorem RepL.take {g : Gx} {F : Hp} : ∀ {vs : List V} {ds : List D} (n : Nat), RepL g F vs ds → RepL g F (vs.take n) (ds.take n)
  | _, _, 0, _ => .nil
  | _, _, _ + 1, .nil => .nil
  | _, _, n + 1, .cons r t => .cons r (RepL.take n t)
theorem RepL.drop {g : Gx} {F : Hp} : ∀ {vs : List V} {ds : List D} (n : Nat), RepL g F vs ds → RepL g F (vs.drop n) (ds.drop n)
  | _, _, 0, r => r
  | _, _, _ + 1, .nil => .nil
  | _, _, n + 1, .cons _ t => RepL.drop n t
theorem RepL.set {g : Gx} {F : Hp} {x : V} {d : D} (r : Rep g F x d) : ∀ {xs : List V} {us : List D} (i : Nat), RepL g F xs us → RepL g F (xs.set i x) (us.set i d)
  | _, _, _, .nil => .nil
  | _, _, 0, .cons _ t => .cons r t
  | _, _, i + 1, .cons q t => .cons q (RepL.set r i t)
theorem RepL.eraseIdx {g : Gx} {F : Hp} : ∀ {xs : List V} {us : List D} (i : Nat), RepL g F xs us → RepL g F (xs.eraseIdx i) (us.eraseIdx i)
  | _, _, _, .nil => .nil
  | _, _, 0, .cons _ t => t
  | _, _, i + 1, .cons q t => .cons q (RepL.eraseIdx i t)
theorem RepL.rev {g : Gx} {F : Hp} {vs : List V} {ds : List D} (r : RepL g F vs ds) : RepL g F vs.reverse ds.reverse := by
  suffices h : ∀ (vs : List V) (ds : List D) (ws : List V) (es : List D), RepL g F vs ds → RepL g F ws es → RepL g F (vs.reverseAux ws) (ds.reverseAux es) from h vs ds [] [] r .nil
  intro vs
  induction vs with
  | nil => intro ds ws es h k; cases h; exact k
  | cons v vs ih =>
    intro ds ws es h k
    cases h with
    | @cons _ _ d ds h1 h2 => exact ih ds (v :: ws) (d :: es) h2 (.cons h1 k)
theorem RepL.rep {g : Gx} {F : Hp} {vs : List V} {ds : List D} (h : RepL g F vs ds) : ∀ k : Nat, RepL g F (List.replicate k vs).flatten (List.replicate k ds).flatten
  | 0 => .nil
  | k + 1 => by rw [List.replicate_succ, List.replicate_succ, List.flatten_cons, List.flatten_cons]; exact h.append (RepL.rep h k)
/-- all but the tables of code objects stays -/
def Keep (H H' : Hp) : Prop := ∀ a o, H a = some o → H' a = some o ∨ ((∃ ps, o = .tbl ps) ∧ ∃ qs, H' a = some (.tbl qs) ∧ TriplesOk qs.toList)
theorem Keep.refl (H : Hp) : Keep H H := fun _ _ h => .inl h
theorem Keep.trans {G H J : Hp} (a : Keep G H) (b : Keep H J) : Keep G J := fun x o h => by
  rcases a x o h with h1 | ⟨⟨ps, rfl⟩, qs, h1, k1⟩
  · exact b x o h1
  · rcases b x _ h1 with h2 | ⟨_, rs, h2, k2⟩
    · exact .inr ⟨⟨ps, rfl⟩, qs, h2, k1⟩
    · exact .inr ⟨⟨ps, rfl⟩, rs, h2, k2⟩
theorem Keep.nn {H H' : Hp} (k : Keep H H') {a : Addr} (h : H' a = none) : H a = none := by
  cases e : H a with
  | none => rfl
  | some o =>
    rcases k a o e with h1 | ⟨_, _, h1, _⟩ <;> (rw [h] at h1; cases h1)
theorem Keep.of {H H' : Hp} {a : Addr} {o : HO} (k : Keep H H') (h : H a = some o) (n : ∀ ps, o ≠ .tbl ps) : H' a = some o := by
  rcases k a o h with h1 | ⟨⟨ps, e⟩, _⟩
  · exact h1
  · exact absurd e (n ps)
theorem Keep.new {H : Hp} {p : Addr} {o : HO} (h : H p = none) : Keep H (upd H p o) := fun a u e => .inl (by rw [upd_ne (ne_of_none e h)]; exact e)
/-- F is a part of H without tables; the tables are fine -/
structure Good (F H : Hp) : Prop where
  sub : Sub F H
  notb : ∀ a ps, F a ≠ some (.tbl ps)
/-- the table of a code object, in order -/
def TabAt (H : Hp) (P : Addr) : Prop := ∃ ps : Array Value, H P = some (.tbl ps) ∧ TriplesOk ps.toList
theorem TabAt.keep {H H' : Hp} {P : Addr} (t : TabAt H P) (k : Keep H H') : TabAt H' P := by
  obtain ⟨ps, h1, h2⟩ := t
  rcases k P _ h1 with h3 | ⟨_, qs, h3, h4⟩
  · exact ⟨ps, h3, h2⟩
  · exact ⟨qs, h3, h4⟩
theorem TabAt.upd {H : Hp} {P l : Addr} {o : HO} (t : TabAt H P) (h : ∀ ps, H l ≠ some (.tbl ps)) : TabAt (upd H l o) P := by
  obtain ⟨ps, h1, h2⟩ := t
  exact ⟨ps, by rw [upd_ne (fun z => h ps (by rw [← z]; exact h1))]; exact h1, h2⟩
/-- what an expression may do: new objects -/
structure Grow (F H F' H' : Hp) : Prop where
  sub : Sub F F'
  keep : Keep H H'
  good : Good F' H'
  new : ∀ a, F a = none → F' a ≠ none → H a = none
theorem Grow.refl {F H : Hp} (g : Good F H) : Grow F H F H := ⟨.refl _, .refl _, g, fun _ h h' => absurd h h'⟩
theorem Grow.trans {F H F1 H1 F2 H2 : Hp} (a : Grow F H F1 H1) (b : Grow F1 H1 F2 H2) : Grow F H F2 H2 :=
  ⟨a.sub.trans b.sub, a.keep.trans b.keep, b.good, fun x h h' => by
    cases e : F1 x with
    | none => exact a.keep.nn (b.new x e h')
    | some o => exact a.new x h (by rw [e]; simp)⟩
/-- one new frozen object -/
theorem Grow.mk1 {F H : Hp} {p : Addr} {o : HO} (g : Good F H) (h : H p = none) (n : ∀ ps, o ≠ .tbl ps) : Grow F H (upd F p o) (upd H p o) := by
  have hF : F p = none := by
    cases e : F p with
    | none => rfl
    | some u => have := g.sub p u e; rw [h] at this; cases this
  refine ⟨fun a u e => ?_, .new h, ⟨fun a u e => ?_, fun a ps e => ?_⟩, fun a h1 h2 => ?_⟩
  · rw [upd_ne (ne_of_none e hF)]; exact e
  · by_cases hp : a = p
    · subst hp; rw [upd_same] at e ⊢; exact e
    · rw [upd_ne hp] at e ⊢; exact g.sub a u e
  · by_cases hp : a = p
    · subst hp; rw [upd_same] at e; exact n ps (Option.some.inj e)
    · rw [upd_ne hp] at e; exact g.notb a ps e
  · by_cases hp : a = p
    · subst hp; exact h
    · rw [upd_ne hp] at h2; exact absurd h1 h2
/-- a new object that is not frozen (owned) -/
theorem Grow.mk0 {F H : Hp} {p : Addr} {o : HO} (g : Good F H) (h : H p = none) (n : ∀ ps, o ≠ .tbl ps) : Grow F H F (upd H p o) := by
  refine ⟨.refl _, .new h, ⟨fun a u e => ?_, g.notb⟩, fun a h1 h2 => absurd h1 h2⟩
  · have h0 := g.sub a u e
    rw [upd_ne (ne_of_none h0 h)]; exact h0
/-! ### what is owned -/
/-- frozen | a list or dict of frozen things, or no container | a list | a dict whose items | values are such -/
inductive OT where
  | fr | any | li (t : OT) | di (t : OT)
/-- a list or a dict as it stands in H, its items frozen; anything else frozen -/
def View (g : Gx) (F H : Hp) (v : V) : D → Prop
  | .list ds => ∃ a vs, v = .ref a ∧ H a = some (.lst vs) ∧ RepL g F vs ds
  | .dict kvs => ∃ a es, v = .ref a ∧ H a = some (dicO a es) ∧ (kvs.map fun p => keyOf p.1).Nodup ∧ RepE g F es kvs
  | d => Rep g F v d
/-- the addresses that a view owns -/
def vAd (v : V) : D → List Addr
  | .list _ => match v with | .ref a => [a] | _ => []
  | .dict _ => match v with | .ref a => [a] | _ => []
  | _ => []
def OwnL (P : V → D → List Addr → Prop) : List V → List D → List Addr → Prop
  | [], [], As => As = []
  | v :: vs, d :: ds, As => ∃ A B, As = A ++ B ∧ P v d A ∧ OwnL P vs ds B
  | _, _, _ => False
def OwnE (g : Gx) (F : Hp) (P : V → D → List Addr → Prop) : List DEn → List (D × D) → List Addr → Prop
  | [], [], As => As = []
  | e :: es, (k, d) :: kvs, As => ∃ A B nk, As = A ++ B ∧ Rep g F e.k k ∧ keyOf k = some nk ∧ e.h = nk.hash g.w ∧ P e.v d A ∧ OwnE g F P es kvs B
  | _, _, _ => False
def Own (g : Gx) (F H : Hp) : OT → V → D → List Addr → Prop
  | .fr, v, d, As => As = [] ∧ Rep g F v d
  | .any, v, d, As => As = vAd v d ∧ View g F H v d
  | .li t, v, d, As => ∃ a vs ds Bs, v = .ref a ∧ d = .list ds ∧ As = a :: Bs ∧ H a = some (.lst vs) ∧ OwnL (Own g F H t) vs ds Bs
  | .di t, v, d, As => ∃ a es kvs Bs, v = .ref a ∧ d = .dict kvs ∧ As = a :: Bs ∧ H a = some (dicO a es) ∧ (kvs.map fun p => keyOf p.1).Nodup ∧ OwnE g F (Own g F H t) es kvs Bs
theorem OwnL.mono {P Q : V → D → List Addr → Prop} : ∀ {vs : List V} {ds : List D} {As : List Addr}, (∀ v d A, (∀ a ∈ A, a ∈ As) → P v d A → Q v d A) → OwnL P vs ds As → OwnL Q vs ds As
  | [], [], _, _, h => h
  | v :: vs, d :: ds, As, k, h => by
    obtain ⟨A, B, rfl, h1, h2⟩ := h
    exact ⟨A, B, rfl, k v d A (fun a m => List.mem_append_left _ m) h1, OwnL.mono (fun v d A' m => k v d A' fun a ha => List.mem_append_right _ (m a ha)) h2⟩
  | [], _ :: _, _, _, h => h.elim
  | _ :: _, [], _, _, h => h.elim
theorem OwnE.mono {g : Gx} {F F' : Hp} (s : Sub F F') {P Q : V → D → List Addr → Prop} : ∀ {vs : List DEn} {ds : List (D × D)} {As : List Addr}, (∀ v d A, (∀ a ∈ A, a ∈ As) → P v d A → Q v d A) → OwnE g F P vs ds As → OwnE g F' Q vs ds As
  | [], [], _, _, h => h
  | e :: vs, (k', d) :: ds, As, k, h => by
    obtain ⟨A, B, nk, rfl, h1, h2, h3, h4, h5⟩ := h
    exact ⟨A, B, nk, rfl, h1.mono s, h2, h3, k e.v d A (fun a m => List.mem_append_left _ m) h4, OwnE.mono s (fun v d A' m => k v d A' fun a ha => List.mem_append_right _ (m a ha)) h5⟩
  | [], _ :: _, _, _, h => h.elim
  | _ :: _, [], _, _, h => h.elim
theorem View.mono' {g : Gx} {F H F' H' : Hp} (s : Sub F F') {v : V} : ∀ {d : D}, (∀ a ∈ vAd v d, ∀ o, H a = some o → (∀ ps, o ≠ .tbl ps) → H' a = some o) → View g F H v d → View g F' H' v d
  | .list ds, k, h => by
    obtain ⟨a, vs, rfl, h1, h2⟩ := h
    exact ⟨a, vs, rfl, k a (by simp [vAd]) _ h1 (fun _ e => nomatch e), h2.mono s⟩
  | .dict kvs, k, h => by
    obtain ⟨a, es, rfl, h1, h2, h3⟩ := h
    exact ⟨a, es, rfl, k a (by simp [vAd]) _ h1 (fun _ e => nomatch e), h2, h3.mono s⟩
  | .none, _, h => Rep.mono s _ _ h
  | .bool _, _, h => Rep.mono s _ _ h
  | .int _, _, h => Rep.mono s _ _ h
  | .str _, _, h => Rep.mono s _ _ h
  | .tuple _, _, h => Rep.mono s _ _ h
/-- owned things stay while their objects and the frozen ones do -/
theorem Own.mono {g : Gx} {F H F' H' : Hp} (s : Sub F F') : ∀ (t : OT) (v : V) (d : D) (As : List Addr), (∀ a ∈ As, ∀ o, H a = some o → (∀ ps, o ≠ .tbl ps) → H' a = some o) → Own g F H t v d As → Own g F' H' t v d As
  | .fr, v, d, As, _, h => ⟨h.1, h.2.mono s⟩
  | .any, v, d, As, k, h => ⟨h.1, View.mono' s (fun a m => k a (by rw [h.1]; exact m)) h.2⟩
  | .li t, v, d, As, k, h => by
    obtain ⟨a, vs, ds, Bs, h1, h2, rfl, h4, h5⟩ := h
    exact ⟨a, vs, ds, Bs, h1, h2, rfl, k a (by simp) _ h4 (fun _ e => nomatch e), OwnL.mono (fun v d A m => Own.mono s t v d A fun a ha => k a (by simp [m a ha])) h5⟩
  | .di t, v, d, As, k, h => by
    obtain ⟨a, vs, ds, Bs, h1, h2, rfl, h4, h5, h6⟩ := h
    exact ⟨a, vs, ds, Bs, h1, h2, rfl, k a (by simp) _ h4 (fun _ e => nomatch e), h5, OwnE.mono s (fun v d A m => Own.mono s t v d A fun a ha => k a (by simp [m a ha])) h6⟩
/-- the objects of an owned thing stand in H and are no tables -/
theorem Own.there {g : Gx} {F H : Hp} : ∀ (t : OT) (v : V) (d : D) (As : List Addr), Own g F H t v d As → ∀ a ∈ As, ∃ o, H a = some o ∧ ∀ ps, o ≠ .tbl ps
  | .fr, _, _, _, h, a, m => by rw [h.1] at m; cases m
  | .any, v, d, As, h, a, m => by
    obtain ⟨rfl, h⟩ := h
    cases d with
    | list ds =>
      obtain ⟨b, vs, rfl, h1, h2⟩ := h
      simp [vAd] at m; subst m
      exact ⟨_, h1, fun _ e => nomatch e⟩
    | dict kvs =>
      obtain ⟨b, vs, rfl, h1, h2⟩ := h
      simp [vAd] at m; subst m
      exact ⟨_, h1, fun _ e => nomatch e⟩
    | _ => simp [vAd] at m
  | .li t, v, d, As, h, a, m => by
    obtain ⟨b, vs, ds, Bs, h1, h2, rfl, h4, h5⟩ := h
    rcases List.mem_cons.mp m with rfl | m
    · exact ⟨_, h4, fun _ e => nomatch e⟩
    · clear h4 h1 h2
      induction vs generalizing ds Bs with
      | nil => cases ds with
        | nil => cases h5; cases m
        | cons _ _ => exact h5.elim
      | cons x xs ih => cases ds with
        | nil => exact h5.elim
        | cons y ys =>
          obtain ⟨A, B, rfl, q1, q2⟩ := h5
          rcases List.mem_append.mp m with m | m
          · exact Own.there t _ _ _ q1 a m
          · exact ih ys B (by simp [m]) q2 m
  | .di t, v, d, As, h, a, m => by
    obtain ⟨b, vs, ds, Bs, h1, h2, rfl, h4, h5, h6⟩ := h
    rcases List.mem_cons.mp m with rfl | m
    · exact ⟨_, h4, fun _ e => nomatch e⟩
    · clear h4 h1 h2 h5
      induction vs generalizing ds Bs with
      | nil => cases ds with
        | nil => cases h6; cases m
        | cons _ _ => exact h6.elim
      | cons x xs ih => cases ds with
        | nil => exact h6.elim
        | cons y ys =>
          obtain ⟨A, B, nk, rfl, _, _, _, q1, q2⟩ := h6
          rcases List.mem_append.mp m with m | m
          · exact Own.there t _ _ _ q1 a m
          · exact ih ys B (by simp [m]) q2 m
end Mir
namespace Mir
open PySem PySem.Spec PyProof.Rows L2
theorem View.mono {g : Gx} {F H F' H' : Hp} {v : V} {d : D} (s : Sub F F') (k : Keep H H') (h : View g F H v d) : View g F' H' v d :=
  h.mono' s fun a _ o e n => k.of e n
theorem RepL.view {g : Gx} {F H : Hp} {v : V} : ∀ {d : D}, Good F H → Rep g F v d → View g F H v d
  | .list ds, gd, h => by cases h with | lst h1 h2 => exact ⟨_, _, rfl, gd.sub _ _ h1, h2⟩
  | .dict kvs, gd, h => by cases h with | dct h1 h2 h3 => exact ⟨_, _, rfl, gd.sub _ _ h1, h2, h3⟩
  | .none, _, h => h
  | .bool _, _, h => h
  | .int _, _, h => h
  | .str _, _, h => h
  | .tuple _, _, h => h
theorem Grow.view {g : Gx} {F H F' H' : Hp} {v : V} {d : D} (w : Grow F H F' H') (h : View g F H v d) : View g F' H' v d := h.mono w.sub w.keep
theorem Grow.rep {g : Gx} {F H F' H' : Hp} {v : V} {d : D} (w : Grow F H F' H') (h : Rep g F v d) : Rep g F' v d := h.mono w.sub
/-! ### freezing -/
def fzn (F H : Hp) (As : List Addr) : Hp := fun a => if a ∈ As then H a else F a
theorem fzn_in {F H : Hp} {As : List Addr} {a : Addr} (h : a ∈ As) : fzn F H As a = H a := if_pos h
theorem fzn_out {F H : Hp} {As : List Addr} {a : Addr} (h : a ∉ As) : fzn F H As a = F a := if_neg h
theorem fzn_sub {F H : Hp} {As : List Addr} (h : ∀ a ∈ As, F a = none) : Sub F (fzn F H As) := fun a o e => by
  have n : a ∉ As := fun m => by rw [h a m] at e; cases e
  rw [fzn_out n]; exact e
theorem OwnL.rep {g : Gx} {F' : Hp} {P : V → D → List Addr → Prop} : ∀ {vs : List V} {ds : List D} {As : List Addr}, (∀ v d A, (∀ a ∈ A, a ∈ As) → P v d A → Rep g F' v d) → OwnL P vs ds As → RepL g F' vs ds
  | [], [], _, _, _ => .nil
  | v :: vs, d :: ds, As, k, h => by
    obtain ⟨A, B, rfl, h1, h2⟩ := h
    exact .cons (k v d A (fun a m => List.mem_append_left _ m) h1) (OwnL.rep (fun v d A' m => k v d A' fun a ha => List.mem_append_right _ (m a ha)) h2)
  | [], _ :: _, _, _, h => h.elim
  | _ :: _, [], _, _, h => h.elim
theorem OwnE.rep {g : Gx} {F F' : Hp} (s : Sub F F') {P : V → D → List Addr → Prop} : ∀ {vs : List DEn} {ds : List (D × D)} {As : List Addr}, (∀ v d A, (∀ a ∈ A, a ∈ As) → P v d A → Rep g F' v d) → OwnE g F P vs ds As → RepE g F' vs ds
  | [], [], _, _, _ => .nil
  | e :: vs, (k', d) :: ds, As, k, h => by
    obtain ⟨A, B, nk, rfl, h1, h2, h3, h4, h5⟩ := h
    exact .cons (h1.mono s) h2 h3 (k e.v d A (fun a m => List.mem_append_left _ m) h4) (OwnE.rep s (fun v d A' m => k v d A' fun a ha => List.mem_append_right _ (m a ha)) h5)
  | [], _ :: _, _, _, h => h.elim
  | _ :: _, [], _, _, h => h.elim
theorem Own.rep {g : Gx} {F H F' : Hp} (s : Sub F F') : ∀ (t : OT) (v : V) (d : D) (As : List Addr), (∀ a ∈ As, F' a = H a) → Own g F H t v d As → Rep g F' v d
  | .fr, v, d, As, _, h => h.2.mono s
  | .any, v, d, As, k, h => by
    obtain ⟨rfl, h⟩ := h
    cases d with
    | list ds =>
      obtain ⟨a, vs, rfl, h1, h2⟩ := h
      exact .lst ((k a (by simp [vAd])).trans h1) (h2.mono s)
    | dict kvs =>
      obtain ⟨a, es, rfl, h1, h2, h3⟩ := h
      exact .dct ((k a (by simp [vAd])).trans h1) h2 (h3.mono s)
    | _ => exact Rep.mono s _ _ h
  | .li t, v, d, As, k, h => by
    obtain ⟨a, vs, ds, Bs, rfl, rfl, rfl, h4, h5⟩ := h
    exact .lst ((k a (by simp)).trans h4) (OwnL.rep (fun v d A m => Own.rep s t v d A fun a ha => k a (by simp [m a ha])) h5)
  | .di t, v, d, As, k, h => by
    obtain ⟨a, vs, ds, Bs, rfl, rfl, rfl, h4, h5, h6⟩ := h
    exact .dct ((k a (by simp)).trans h4) h5 (OwnE.rep s (fun v d A m => Own.rep s t v d A fun a ha => k a (by simp [m a ha])) h6)
theorem good_fzn {g : Gx} {F H : Hp} {t : OT} {v : V} {d : D} {As : List Addr} (gd : Good F H) (o : Own g F H t v d As) : Good (fzn F H As) H := by
  refine ⟨fun a u e => ?_, fun a ps e => ?_⟩
  · by_cases m : a ∈ As
    · rw [fzn_in m] at e; exact e
    · rw [fzn_out m] at e; exact gd.sub a u e
  · by_cases m : a ∈ As
    · rw [fzn_in m] at e
      obtain ⟨u, h1, h2⟩ := Own.there t v d As o a m
      rw [e] at h1; exact h2 ps (Option.some.inj h1).symm
    · rw [fzn_out m] at e; exact gd.notb a ps e
theorem rep_fzn {g : Gx} {F H : Hp} {t : OT} {v : V} {d : D} {As : List Addr} (n : ∀ a ∈ As, F a = none) (o : Own g F H t v d As) : Rep g (fzn F H As) v d :=
  Own.rep (fzn_sub n) t v d As (fun _ m => fzn_in m) o
/-! ### slots -/
/-- unassigned | frozen | owned | the script -/
inductive Sl where
  | un | fr | ow (t : OT) | sc
def Scr (g : Gx) (F : Hp) (v : V) (d : D) : Prop := ∃ (a : Addr) (ns : List Int), v = .ref a ∧ d = .list (ns.map .int) ∧ SqL g.K F a (ns.map V.int)
def SlotOk (g : Gx) (F H : Hp) : Sl → D → Option V → List Addr → Prop
  | .un, _, _, As => As = []
  | .fr, d, x, As => As = [] ∧ ∃ v, x = some v ∧ Rep g F v d
  | .ow t, d, x, As => ∃ v, x = some v ∧ Own g F H t v d As
  | .sc, d, x, As => As = [] ∧ ∃ v, x = some v ∧ Scr g F v d
theorem SlotOk.mono {g : Gx} {F H F' H' : Hp} {s : Sl} {d : D} {x : Option V} {As : List Addr} (sb : Sub F F') (k : ∀ a ∈ As, ∀ o, H a = some o → (∀ ps, o ≠ .tbl ps) → H' a = some o) (h : SlotOk g F H s d x As) : SlotOk g F' H' s d x As := by
  cases s with
  | un => exact h
  | fr => exact ⟨h.1, h.2.imp fun v q => ⟨q.1, q.2.mono sb⟩⟩
  | ow t => exact h.imp fun v q => ⟨q.1, Own.mono sb t _ _ _ k q.2⟩
  | sc => exact ⟨h.1, h.2.imp fun v ⟨q, a, ns, e1, e2, e3⟩ => ⟨q, a, ns, e1, e2, sub_l sb e3⟩⟩
abbrev AF := Nat → List Addr
structure St0 (g : Gx) (sh : List Sl) (env : List D) (σ : L2.St) (F H : Hp) (A : AF) : Prop where
  good : Good F H
  le : env.length = sh.length
  ls : σ.length = sh.length
  ok : ∀ i s d x, sh[i]? = some s → env[i]? = some d → σ[i]? = some x → SlotOk g F H s d x (A i)
  out : ∀ i, sh.length ≤ i → A i = []
  fre : ∀ i, ∀ a ∈ A i, F a = none
  nd : ∀ i, (A i).Nodup
  dj : ∀ i j, i ≠ j → ∀ a, a ∈ A i → a ∉ A j
  tb : ∀ P, g.tb P → TabAt H P
section
variable {g : Gx} {sh : List Sl} {env : List D} {σ : L2.St} {F H F' H' : Hp} {A : AF}
theorem St0.get (s : St0 g sh env σ F H A) {i : Nat} {t : Sl} {d : D} (h1 : sh[i]? = some t) (h2 : env[i]? = some d) : ∃ x, σ[i]? = some x ∧ SlotOk g F H t d x (A i) := by
  have hi : i < σ.length := by rw [s.ls]; exact (List.getElem?_eq_some_iff.mp h1).1
  exact ⟨σ[i], List.getElem?_eq_getElem hi, s.ok i _ _ _ h1 h2 (List.getElem?_eq_getElem hi)⟩
theorem SlotOk.there {t : Sl} {d : D} {x : Option V} {As : List Addr} (h : SlotOk g F H t d x As) : ∀ a ∈ As, ∃ o, H a = some o ∧ ∀ ps, o ≠ .tbl ps := by
  intro a m
  cases t with
  | un => rw [show As = [] from h] at m; cases m
  | fr => rw [h.1] at m; cases m
  | ow t => obtain ⟨v, _, q⟩ := h; exact Own.there t _ _ _ q a m
  | sc => rw [h.1] at m; cases m
theorem St0.there (s : St0 g sh env σ F H A) (i : Nat) : ∀ a ∈ A i, ∃ o, H a = some o ∧ ∀ ps, o ≠ .tbl ps := by
  intro a m
  by_cases hi : i < sh.length
  · obtain ⟨x, hx, ok⟩ := s.get (List.getElem?_eq_getElem hi) (List.getElem?_eq_getElem (by rw [s.le]; exact hi))
    exact ok.there a m
  · rw [s.out i (by omega)] at m; cases m
theorem St0.grow (s : St0 g sh env σ F H A) (w : Grow F H F' H') : St0 g sh env σ F' H' A :=
  ⟨w.good, s.le, s.ls, fun i t d x h1 h2 h3 => (s.ok i t d x h1 h2 h3).mono w.sub fun a _ o e n => w.keep.of e n, s.out, (fun i a m => by
    obtain ⟨o, e, _⟩ := s.there i a m
    cases q : F' a with
    | none => rfl
    | some u =>
      have := w.new a (s.fre i a m) (by rw [q]; simp)
      rw [e] at this; cases this), s.nd, s.dj, fun P t => (s.tb P t).keep w.keep⟩
end
/-! ### the canonical readings of expressions -/
abbrev Pr := Hp → Hp → V → D → Prop
def tP (g : Gx) (P : Pr) (sh : List Sl) (env : List D) (m : Option D) : TE := fun σ H Q => ∃ F A d, St0 g sh env σ F H A ∧ m = some d ∧ ∀ v F' H', Grow F H F' H' → P F' H' v d → Q v H'
abbrev pRep (g : Gx) : Pr := fun F _ v d => Rep g F v d
abbrev pView (g : Gx) : Pr := fun F H v d => View g F H v d
abbrev pScr (g : Gx) : Pr := fun F _ v d => Scr g F v d
abbrev tE (g : Gx) := tP g (pRep g)
abbrev tV (g : Gx) := tP g (pView g)
/-- something new, owned -/
def tO (g : Gx) (t : OT) (sh : List Sl) (env : List D) (m : Option D) : TE := fun σ H Q => ∃ F A d, St0 g sh env σ F H A ∧ m = some d ∧
  ∀ v F' H' Bs, Grow F H F' H' → Own g F' H' t v d Bs → Bs.Nodup → (∀ a ∈ Bs, F' a = none ∧ H a = none) → Q v H'
/-- a test -/
def tT (g : Gx) (sh : List Sl) (env : List D) (m : Option Bool) : TT := fun σ H Q => ∃ F A b, St0 g sh env σ F H A ∧ m = some b ∧ ∀ F' H', Grow F H F' H' → Q b H'
/-- a list of arguments -/
def RepA (g : Gx) (Ps : List Pr) (F H : Hp) : List V → List D → Prop := fun vs ds => vs.length = ds.length ∧ ds.length = Ps.length ∧ ∀ (i : Nat) (v : V) (d : D) (P : Pr), vs[i]? = some v → ds[i]? = some d → Ps[i]? = some P → P F H v d
/-- one after another -/
def bindL {β : Type} : List (Option D) → (List D → Option β) → Option β
  | [], k => k []
  | m :: ms, k => m.bind fun d => bindL ms fun ds => k (d :: ds)
theorem bindL_bind {β : Type} : ∀ (ms : List (Option D)) (k : List D → Option β), bindL ms k = (bindL ms some).bind k
  | [], k => rfl
  | m :: ms, k => by
    show (m.bind fun d => bindL ms fun ds => k (d :: ds)) = (m.bind fun d => bindL ms fun ds => some (d :: ds)).bind k
    cases m with
    | none => rfl
    | some d =>
      show (bindL ms fun ds => k (d :: ds)) = (bindL ms fun ds => some (d :: ds)).bind k
      rw [bindL_bind ms (fun ds => k (d :: ds)), bindL_bind ms (fun ds => some (d :: ds))]
      cases bindL ms some <;> rfl
theorem bindL_some {β : Type} {ms : List (Option D)} {k : List D → Option β} {r : β} (h : bindL ms k = some r) : ∃ ds, bindL ms some = some ds ∧ k ds = some r := by
  rw [bindL_bind] at h
  exact Option.bind_eq_some_iff.mp h
def tA (g : Gx) (Ps : List Pr) (sh : List Sl) (env : List D) (ms : List (Option D)) : TA := fun σ H Q => ∃ F A ds, St0 g sh env σ F H A ∧ bindL ms some = some ds ∧ ∀ vs F' H', Grow F H F' H' → RepA g Ps F' H' vs ds → Q vs H'
/-- stays while things grow -/
def Stays (P : Pr) : Prop := ∀ F H F' H' v d, Grow F H F' H' → P F H v d → P F' H' v d
theorem st_rep (g : Gx) : Stays (pRep g) := fun _ _ _ _ _ _ w h => w.rep h
theorem st_view (g : Gx) : Stays (pView g) := fun _ _ _ _ _ _ w h => w.view h
theorem st_scr (g : Gx) : Stays (pScr g) := fun _ _ _ _ _ _ w ⟨a, ns, e1, e2, e3⟩ => ⟨a, ns, e1, e2, sub_l w.sub e3⟩
abbrev gx (tb : Addr → Prop) (X : Cx) : Gx := ⟨X.prog, X.w, X.K, tb⟩
end Mir
namespace L2
open PySem PySem.Spec PyProof.Rows
theorem PE.imp {X : Cx} {e : Expr} {t t' : TE} (h : PE X e t) (k : ∀ σ H Q, t' σ H Q → t σ H Q) : PE X e t' := ⟨fun pins s σ H Q I q => h.run pins s σ H Q I (k σ H Q q)⟩
theorem PT.imp {X : Cx} {e : Expr} {t t' : TT} (h : PT X e t) (k : ∀ σ H Q, t' σ H Q → t σ H Q) : PT X e t' := ⟨fun pins s σ H Q I q => h.run pins s σ H Q I (k σ H Q q)⟩
theorem PW.imp {X : Cx} {e : Expr} {t t' : TT} (h : PW X e t) (k : ∀ σ H Q, t' σ H Q → t σ H Q) : PW X e t' := ⟨fun wh pins s σ H Q I q => h.run wh pins s σ H Q I (k σ H Q q)⟩
theorem PA.imp {X : Cx} {e : List Expr} {t t' : TA} (h : PA X e t) (k : ∀ σ H Q, t' σ H Q → t σ H Q) : PA X e t' := ⟨fun p pins s σ H Q I q => h.run p pins s σ H Q I (k σ H Q q)⟩
theorem PS.imp {X : Cx} {e : Stmt} {t t' : TS} (h : PS X e t) (k : ∀ D σ H, t' D σ H → t D σ H) : PS X e t' := ⟨fun pins s σ H D I q => h.run pins s σ H D I (k D σ H q)⟩
theorem PSs.imp {X : Cx} {e : List Stmt} {t t' : TS} (h : PSs X e t) (k : ∀ D σ H, t' D σ H → t D σ H) : PSs X e t' := ⟨fun pins s σ H D I q => h.run pins s σ H D I (k D σ H q)⟩
theorem OpR.imp {X : Cx} {f : Value → Value → Sem Value} {r r' : R2} (h : OpR X f r) (k : ∀ x y H Q, r' x y H Q → r x y H Q) : OpR X f r' := fun pins s σ H x y v u Q I rx ry q => h pins s σ H x y v u Q I rx ry (k x y H Q q)
theorem CallR.imp {X : Cx} {f : Value} {r r' : List V → Hp → VK → Prop} (h : CallR X f r) (k : ∀ xs H Q, r' xs H Q → r xs H Q) : CallR X f r' := fun pins s σ H xs us Q I rx q => h pins s σ H xs us Q I rx (k xs H Q q)
theorem IxR.imp {X : Cx} {r r' : R2} (h : IxR X r) (k : ∀ x y H Q, r' x y H Q → r x y H Q) : IxR X r' := fun a b pins s σ H x y v u Q I rx ry q => h a b pins s σ H x y v u Q I rx ry (k x y H Q q)
theorem MtR.imp {X : Cx} {id : String} {r r' : V → List V → Hp → VK → Prop} (h : MtR X id r) (k : ∀ x xs H Q, r' x xs H Q → r x xs H Q) : MtR X id r' := fun pins s σ H x xs v us Q I rx ry q => h pins s σ H x xs v us Q I rx ry (k x xs H Q q)
end L2
namespace Mir
open PySem PySem.Spec PyProof.Rows L2
section
variable {X : Cx} {tb : Addr → Prop} {e e1 e2 : Expr} {sh : List Sl} {env : List D} {m m1 m2 : Option D} {pos : Pos}
/-! ### from one kind to another -/
theorem P_imp {g : Gx} {P P' : Pr} (k : ∀ F H v d, Good F H → P F H v d → P' F H v d) (h : PE X e (tP g P sh env m)) : PE X e (tP g P' sh env m) :=
  h.imp fun σ H Q ⟨F, A, d, s, e, q⟩ => ⟨F, A, d, s, e, fun v F' H' w p => q v F' H' w (k _ _ _ _ w.good p)⟩
theorem toV (h : PE X e (tE (gx tb X) sh env m)) : PE X e (tV (gx tb X) sh env m) := P_imp (fun _ _ _ _ gd p => RepL.view gd p) h
theorem own_fre {g : Gx} {F F' H H' : Hp} {t : OT} {v : V} {d : D} {Bs : List Addr} (w : Grow F H F' H') (o : Own g F' H' t v d Bs) (n : ∀ a ∈ Bs, F' a = none ∧ H a = none) : Grow F H (fzn F' H' Bs) H' :=
  ⟨w.sub.trans (fzn_sub fun a m => (n a m).1), w.keep, good_fzn w.good o, fun a h1 h2 => by
    by_cases m : a ∈ Bs
    · exact (n a m).2
    · rw [fzn_out m] at h2; exact w.new a h1 h2⟩
theorem O_toE {t : OT} (h : PE X e (tO (gx tb X) t sh env m)) : PE X e (tE (gx tb X) sh env m) :=
  h.imp fun σ H Q ⟨F, A, d, s, e, q⟩ => ⟨F, A, d, s, e, fun v F' H' Bs w o nd n => q v _ H' (own_fre w o n) (rep_fzn (fun a m => (n a m).1) o)⟩
theorem O_toV (h : PE X e (tO (gx tb X) .any sh env m)) : PE X e (tV (gx tb X) sh env m) :=
  h.imp fun σ H Q ⟨F, A, d, s, e, q⟩ => ⟨F, A, d, s, e, fun v F' H' Bs w o nd n => q v F' H' w o.2⟩
/-! ### names, constants -/
theorem e_fr {i : Nat} {x : Str} {d : D} (hN : X.N[i]? = some x) (hv : Vis X.env.scope x) (h1 : sh[i]? = some .fr) (h2 : env[i]? = some d) (hd : (x == ("__debug__" : Str)) = false := by decide) (hcd : (x == ("__classdict__" : Str)) = false := by decide) :
    PE X (.Name x pos) (tE (gx tb X) sh env (some d)) :=
  (pe_var hN hv hd hcd).imp fun σ H Q ⟨F, A, d', s, e, q⟩ => by
    cases e
    obtain ⟨x, hx, _, v, rfl, r⟩ := s.get h1 h2
    exact ⟨v, hx, q v F H (.refl s.good) r⟩
theorem e_ow {i : Nat} {x : Str} {d : D} (hN : X.N[i]? = some x) (hv : Vis X.env.scope x) (h1 : sh[i]? = some (.ow .any)) (h2 : env[i]? = some d) (hd : (x == ("__debug__" : Str)) = false := by decide) (hcd : (x == ("__classdict__" : Str)) = false := by decide) :
    PE X (.Name x pos) (tV (gx tb X) sh env (some d)) :=
  (pe_var hN hv hd hcd).imp fun σ H Q ⟨F, A, d', s, e, q⟩ => by
    cases e
    obtain ⟨x, hx, v, rfl, _, r⟩ := s.get h1 h2
    exact ⟨v, hx, q v F H (.refl s.good) r⟩
theorem e_sc {i : Nat} {x : Str} {d : D} (hN : X.N[i]? = some x) (hv : Vis X.env.scope x) (h1 : sh[i]? = some .sc) (h2 : env[i]? = some d) (hd : (x == ("__debug__" : Str)) = false := by decide) (hcd : (x == ("__classdict__" : Str)) = false := by decide) :
    PE X (.Name x pos) (tP (gx tb X) (pScr (gx tb X)) sh env (some d)) :=
  (pe_var hN hv hd hcd).imp fun σ H Q ⟨F, A, d', s, e, q⟩ => by
    cases e
    obtain ⟨x, hx, _, v, rfl, r⟩ := s.get h1 h2
    exact ⟨v, hx, q v F H (.refl s.good) r⟩
theorem e_c {v : V} {d : D} (h : PE X e (tC v)) (r : ∀ F, Rep (gx tb X) F v d) : PE X e (tE (gx tb X) sh env (some d)) :=
  h.imp fun σ H Q ⟨F, A, d', s, e, q⟩ => by cases e; exact q v F H (.refl s.good) (r F)
theorem e_int {i : Int} {j : Nat} : PE X (.Constant (.int i) j pos) (tE (gx tb X) sh env (some (.int i))) := e_c pe_int fun _ => .int i
theorem e_bl {b : Bool} {j : Nat} : PE X (.Constant (.bool b) j pos) (tE (gx tb X) sh env (some (.bool b))) := e_c pe_bl fun _ => .bl b
theorem e_non {j : Nat} : PE X (.Constant .none j pos) (tE (gx tb X) sh env (some .none)) := e_c pe_non fun _ => .non
theorem e_str {x : Str} {j : Nat} (h : PyData.strOk x = true := by decide) (h2 : x.length ≤ 16777216 := by decide) : PE X (.Constant (.str x) j pos) (tE (gx tb X) sh env (some (.str x))) := e_c pe_str fun _ => .str x h h2
/-! ### operators -/
/-- two operands, each seen as P1, P2; the answer seen as P -/
def rD (g : Gx) (P1 P2 P : Pr) (f : D → D → Option D) : R2 := fun x y H Q => ∃ F a b d, Good F H ∧ P1 F H x a ∧ P2 F H y b ∧ f a b = some d ∧ ∀ v F' H', Grow F H F' H' → P F' H' v d → Q v H'
theorem two {g : Gx} {P1 P2 P : Pr} {f : D → D → Option D} {σ : L2.St} {H : Hp} {Q : VK} (st : Stays P1) (h : tP g P sh env (m1.bind fun a => m2.bind fun b => f a b) σ H Q) :
    tOp (rD g P1 P2 P f) (tP g P1 sh env m1) (tP g P2 sh env m2) σ H Q := by
  obtain ⟨F, A, d, s, e, q⟩ := h
  obtain ⟨a, ha, e⟩ := Option.bind_eq_some_iff.mp e
  obtain ⟨b, hb, e⟩ := Option.bind_eq_some_iff.mp e
  exact ⟨F, A, a, s, ha, fun x F1 H1 w1 p1 => ⟨F1, A, b, s.grow w1, hb, fun y F2 H2 w2 p2 => ⟨F2, a, b, d, w2.good, st _ _ _ _ _ _ w2 p1, p2, e, fun v F' H' w p => q v F' H' ((w1.trans w2).trans w) p⟩⟩⟩
theorem e_bin {op : Operator} {P1 P2 P : Pr} {f : D → D → Option D} (ho : OpR X (binaryOp op) (rD (gx tb X) P1 P2 P f)) (st : Stays P1) (h1 : PE X e1 (tP (gx tb X) P1 sh env m1)) (h2 : PE X e2 (tP (gx tb X) P2 sh env m2)) :
    PE X (.BinOp e1 op e2 pos) (tP (gx tb X) P sh env (m1.bind fun a => m2.bind fun b => f a b)) := (pe_op ho h1 h2).imp fun _ _ _ h => two st h
theorem e_ix {P1 P2 P : Pr} {f : D → D → Option D} (ho : IxR X (rD (gx tb X) P1 P2 P f)) (st : Stays P1) (h1 : PE X e1 (tP (gx tb X) P1 sh env m1)) (h2 : PE X e2 (tP (gx tb X) P2 sh env m2)) (hs : PlainIx e2 := by exact fun _ _ => rfl) :
    PE X (.Subscript e1 e2 pos) (tP (gx tb X) P sh env (m1.bind fun a => m2.bind fun b => f a b)) := (pe_ix ho h1 h2 hs).imp fun _ _ _ h => two st h
/-- a comparison -/
def rB (g : Gx) (P1 P2 : Pr) (f : D → D → Option Bool) : R2 := fun x y H Q => ∃ F a b t, Good F H ∧ P1 F H x a ∧ P2 F H y b ∧ f a b = some t ∧ ∀ F' H', Grow F H F' H' → Q (.bl t) H'
theorem e_cmp {op : CmpOp} {P1 P2 : Pr} {f : D → D → Option Bool} (ho : OpR X (compareOp op) (rB (gx tb X) P1 P2 f)) (st : Stays P1) (h1 : PE X e1 (tP (gx tb X) P1 sh env m1)) (h2 : PE X e2 (tP (gx tb X) P2 sh env m2)) (hm : behindInMarks op e2 = false) :
    PE X (.Compare e1 [op] [e2] pos) (tE (gx tb X) sh env ((m1.bind fun a => m2.bind fun b => f a b).map .bool)) := (pe_cmpR ho h1 h2 hm).imp fun σ H Q h => by
  obtain ⟨F, A, d, s, e, q⟩ := h
  obtain ⟨t, e', rfl⟩ := Option.map_eq_some_iff.mp e
  clear e
  obtain ⟨a, ha, e⟩ := Option.bind_eq_some_iff.mp e'
  skip -- := Option.bind_eq_some_iff.mp e
  obtain ⟨b, hb, e⟩ := Option.bind_eq_some_iff.mp e
  exact ⟨F, A, a, s, ha, fun x F1 H1 w1 p1 => ⟨F1, A, b, s.grow w1, hb, fun y F2 H2 w2 p2 => ⟨F2, a, b, t, w2.good, st _ _ _ _ _ _ w2 p1, p2, e, fun F' H' w => q _ F' H' ((w1.trans w2).trans w) (.bl t)⟩⟩⟩
theorem t_cmp {op : CmpOp} {P1 P2 : Pr} {f : D → D → Option Bool} (ho : OpR X (compareOp op) (rB (gx tb X) P1 P2 f)) (st : Stays P1) (h1 : PE X e1 (tP (gx tb X) P1 sh env m1)) (h2 : PE X e2 (tP (gx tb X) P2 sh env m2)) (hm : behindInMarks op e2 = false) :
    PT X (.Compare e1 [op] [e2] pos) (tT (gx tb X) sh env (m1.bind fun a => m2.bind fun b => f a b)) := (pt_cmpR ho h1 h2 hm).imp fun σ H Q h => by
  obtain ⟨F, A, t, s, e, q⟩ := h
  obtain ⟨a, ha, e⟩ := Option.bind_eq_some_iff.mp e
  obtain ⟨b, hb, e⟩ := Option.bind_eq_some_iff.mp e
  exact ⟨F, A, a, s, ha, fun x F1 H1 w1 p1 => ⟨F1, A, b, s.grow w1, hb, fun y F2 H2 w2 p2 => ⟨F2, a, b, t, w2.good, st _ _ _ _ _ _ w2 p1, p2, e, fun F' H' w => ⟨t, rfl, q F' H' ((w1.trans w2).trans w)⟩⟩⟩⟩
/-! ### tests -/
variable {c c1 c2 : Option Bool}
theorem t_not (h : PT X e (tT (gx tb X) sh env c)) : PT X (.UnaryOp .Not e pos) (tT (gx tb X) sh env (c.map (!·))) := (pt_not h).imp fun σ H Q ⟨F, A, t, s, e, q⟩ => by
  obtain ⟨b, e', rfl⟩ := Option.map_eq_some_iff.mp e
  exact ⟨F, A, b, s, e', q⟩
/-- a and b | a or b -/
def bAnd (a b : Option Bool) : Option Bool := a.bind fun x => if x = true then b else some false
def bOr (a b : Option Bool) : Option Bool := a.bind fun x => if x = true then some true else b
theorem w_and1 (h : PT X e (tT (gx tb X) sh env c)) : PW X (.BoolOp .And [e] pos) (tT (gx tb X) sh env c) := pw_and1 h
theorem w_or1 (h : PT X e (tT (gx tb X) sh env c)) : PW X (.BoolOp .Or [e] pos) (tT (gx tb X) sh env c) := pw_or1 h
theorem w_and {rest : List Expr} (h1 : PT X e1 (tT (gx tb X) sh env c1)) (h2 : PW X (.BoolOp .And (e2 :: rest) pos) (tT (gx tb X) sh env c2)) : PW X (.BoolOp .And (e1 :: e2 :: rest) pos) (tT (gx tb X) sh env (bAnd c1 c2)) :=
  (pw_and h1 h2).imp fun σ H Q ⟨F, A, t, s, e, q⟩ => by
    obtain ⟨a, ha, e⟩ := Option.bind_eq_some_iff.mp e
    refine ⟨F, A, a, s, ha, fun F1 H1 w1 => ?_⟩
    cases a with
    | true => exact ⟨F1, A, t, s.grow w1, e, fun F' H' w => q F' H' (w1.trans w)⟩
    | false => cases e; exact q F1 H1 w1
theorem w_or {rest : List Expr} (h1 : PT X e1 (tT (gx tb X) sh env c1)) (h2 : PW X (.BoolOp .Or (e2 :: rest) pos) (tT (gx tb X) sh env c2)) : PW X (.BoolOp .Or (e1 :: e2 :: rest) pos) (tT (gx tb X) sh env (bOr c1 c2)) :=
  (pw_or h1 h2).imp fun σ H Q ⟨F, A, t, s, e, q⟩ => by
    obtain ⟨a, ha, e⟩ := Option.bind_eq_some_iff.mp e
    refine ⟨F, A, a, s, ha, fun F1 H1 w1 => ?_⟩
    cases a with
    | false => exact ⟨F1, A, t, s.grow w1, e, fun F' H' w => q F' H' (w1.trans w)⟩
    | true => cases e; exact q F1 H1 w1
/-- a if t else b -/
theorem e_if {P : Pr} (hc : PT X e (tT (gx tb X) sh env c)) (h1 : PE X e1 (tP (gx tb X) P sh env m1)) (h2 : PE X e2 (tP (gx tb X) P sh env m2)) : PE X (.IfExp e e1 e2 pos) (tP (gx tb X) P sh env (c.bind fun b => if b = true then m1 else m2)) :=
  (pe_ifExp hc h1 h2).imp fun σ H Q ⟨F, A, d, s, e, q⟩ => by
    obtain ⟨a, ha, e⟩ := Option.bind_eq_some_iff.mp e
    refine ⟨F, A, a, s, ha, fun F1 H1 w1 => ?_⟩
    cases a with
    | true => exact ⟨F1, A, d, s.grow w1, e, fun v F' H' w => q v F' H' (w1.trans w)⟩
    | false => exact ⟨F1, A, d, s.grow w1, e, fun v F' H' w => q v F' H' (w1.trans w)⟩
/-! ### arguments -/
theorem a_nil : PA X [] (tA (gx tb X) [] sh env []) := pa_nil.imp fun σ H Q ⟨F, A, ds, s, e, q⟩ => by
  cases e
  exact q [] F H (.refl s.good) ⟨rfl, rfl, fun i v d P h => by simp at h⟩
theorem a_cons {es : List Expr} {P : Pr} {Ps : List Pr} {ms : List (Option D)} (st : Stays P) (h : PE X e (tP (gx tb X) P sh env m)) (hr : PA X es (tA (gx tb X) Ps sh env ms)) (hs : starEach (e :: es) X.env = (false, eval e X.env) :: starEach es X.env := by rfl) :
    PA X (e :: es) (tA (gx tb X) (P :: Ps) sh env (m :: ms)) := (pa_cons h hr hs).imp fun σ H Q ⟨F, A, ds, s, e, q⟩ => by
  obtain ⟨d, hd, e⟩ := Option.bind_eq_some_iff.mp e
  obtain ⟨ds', hds, e⟩ := bindL_some e
  cases e
  refine ⟨F, A, d, s, hd, fun v F1 H1 w1 p1 => ⟨F1, A, ds', s.grow w1, hds, fun vs F2 H2 w2 ⟨r1, r2, r3⟩ => q (v :: vs) F2 H2 (w1.trans w2) ⟨by simp [r1], by simp [r2], fun i x d' P' e1 e2 e3 => ?_⟩⟩⟩
  cases i with
  | zero =>
    simp only [List.getElem?_cons_zero, Option.some.injEq] at e1 e2 e3
    subst e1; subst e2; subst e3
    exact st _ _ _ _ _ _ w2 p1
  | succ i =>
    simp only [List.getElem?_cons_succ] at e1 e2 e3
    exact r3 i x d' P' e1 e2 e3
theorem RepA.repL {g : Gx} {F H : Hp} : ∀ {Ps : List Pr} {vs : List V} {ds : List D}, (∀ P ∈ Ps, P = pRep g) → RepA g Ps F H vs ds → RepL g F vs ds
  | Ps, [], [], _, _ => .nil
  | Ps, [], _ :: _, _, h => by have := h.1; simp at this
  | Ps, _ :: _, [], _, h => by have := h.1; simp at this
  | [], _ :: _, _ :: _, _, h => by have := h.2.1; simp at this
  | P :: Ps, v :: vs, d :: ds, k, h => by
    have h0 := h.2.2 0 v d P rfl rfl rfl
    rw [k P (by simp)] at h0
    exact .cons h0 (RepA.repL (fun P' m => k P' (List.mem_cons_of_mem _ m)) ⟨by have := h.1; simpa using this, by have := h.2.1; simpa using this, fun i x d' P' e1 e2 e3 => h.2.2 (i + 1) x d' P' (by simpa using e1) (by simpa using e2) (by simpa using e3)⟩)
/-- (a, b, ..) -/
theorem e_tup {es : List Expr} {Ps : List Pr} {ms : List (Option D)} {x1} (h : PA X es (tA (gx tb X) Ps sh env ms)) (hP : ∀ P ∈ Ps, P = pRep (gx tb X)) (hl : es.length ≤ 1000) (hn : Ps.length = es.length) : PE X (.Tuple es x1 pos) (tE (gx tb X) sh env (bindL ms fun ds => some (.tuple ds))) :=
  (pe_tup h).imp fun σ H Q ⟨F, A, d, s, e, q⟩ => by
    obtain ⟨ds, hd, e⟩ := bindL_some e
    cases e
    refine ⟨F, A, ds, s, hd, fun vs F1 H1 w1 r => ⟨?_, fun p hp => ?_⟩⟩
    · rw [r.1, r.2.1, hn]; exact Nat.le_trans hl (by decide)
    · have w2 := Grow.mk1 (p := p) (o := .tup vs) w1.good hp (fun _ e => nomatch e)
      exact q _ _ _ (w1.trans w2) (.tup (.inl (.inl upd_same)) ((r.repL hP).mono w2.sub))
/-- [a, b, ..] -/
theorem e_lst {es : List Expr} {Ps : List Pr} {ms : List (Option D)} (h : PA X es (tA (gx tb X) Ps sh env ms)) (hP : ∀ P ∈ Ps, P = pRep (gx tb X)) (hl : es.length ≤ 1000) (hn : Ps.length = es.length) : PE X (.List es pos) (tO (gx tb X) .any sh env (bindL ms fun ds => some (.list ds))) :=
  (pe_lst h).imp fun σ H Q ⟨F, A, d, s, e, q⟩ => by
    obtain ⟨ds, hd, e⟩ := bindL_some e
    cases e
    refine ⟨F, A, ds, s, hd, fun vs F1 H1 w1 r => ⟨?_, fun p hp => ?_⟩⟩
    · rw [r.1, r.2.1, hn]; exact Nat.le_trans hl (by decide)
    · have w2 := Grow.mk0 (p := p) (o := .lst vs) w1.good hp (fun _ e => nomatch e)
      have hF : F1 p = none := by
        cases q : F1 p with
        | none => rfl
        | some u => have := w1.good.sub p u q; rw [hp] at this; cases this
      exact q _ F1 _ [p] (w1.trans w2) ⟨rfl, p, vs, rfl, upd_same, r.repL hP⟩ (by simp) (fun a m => by
        obtain rfl : a = p := by simpa using m
        exact ⟨hF, w1.keep.nn hp⟩)
end
end Mir
namespace L2
open PySem PySem.Spec PyProof.Rows
theorem tuple_mul0 (l : Addr) (items : Array Value) (n : Nat) (dd : Option Addr) (sl : Array (Option Value)) (x : Int) (u : Tok) (c0 : (decide (x < -(2 ^ 63)) || decide (x ≥ 2 ^ 63)) = false) (c1 : (items.isEmpty || x == 1) = true) :
    Meets (Builtin.«tuple.__mul__» ⟨[.ref l, .int x u], []⟩) (fun _ R s => s.heap.get? l = some { cls := .type "tuple", dict := dd, data := .seq items n, slots := sl } ∧
      R (.ok (.ret (Value.ref l))) s) :=
  .of_wp fun prog w A R s h => by
    obtain ⟨hp, g, d, tk, os⟩ := s
    obtain ⟨hl, h⟩ := h
    have f1 := AutoSeq1.idx_int
    wp_walk using wpAny_loadPart' hl
    repeat (first
      | (refine wpAny_ite_false (decide_eq_false (by rw [c0]; exact Bool.false_ne_true)) ?_; wp_walk using wpAny_loadPart' hl)
      | (refine wpAny_ite_true (decide_eq_true c1) ?_; wp_walk using wpAny_loadPart' hl))
    exact ⟨_, rfl, h⟩
def rRepT0 (K : PySem.W.Frag) : R2 := fun x y H Q => ∃ l k, x = .ref l ∧ y = .int k ∧ SqT K H l [] ∧ 2 ≤ k ∧ k ≤ 1000 ∧ Q (.ref l) H
theorem op_repT0 {X : Cx} : OpR X (binaryOp .Mult) (rRepT0 X.K) := by
  intro pins s σ H x y v u Q I rx ry h
  obtain ⟨l, k, rfl, rfl, hT, h1, h2, q⟩ := h
  cases rx
  obtain ⟨t, rfl⟩ := ry
  obtain ⟨its, r, ⟨⟨cls, dd, data, sl⟩, ho, hc, n, hd⟩, hs⟩ := I.tuple hT
  simp only at hc hd
  subst hc hd
  have hn : its = [] := List.eq_nil_of_length_eq_zero r.length.symm
  subst hn
  have c0 : (decide (k < -(2 ^ 63)) || decide (k ≥ 2 ^ 63)) = false := by
    rw [decide_eq_false (by omega), decide_eq_false (by omega)] <;> rfl
  refine wpAny_binaryOp_repeat_ref (T := "tuple") (U := "int") (by decide) ⟨_, ho, rfl⟩ (fun s' => typeIs_int s' k t) noFill_tuple_mul F.fills_int_mul F.slot_int_rmul repeat_tuple F.slot_int_index.lookup
    (call_meets F.slot_int_rmul (typeIs_int s k t) F.entry_int_rmul (F.args_int_rmul_2 _ _) (int_rmul_tuple k t l _ n dd sl)
      ⟨ho, rfl, ⟨_, ho, rfl⟩, call_meets F.slot_tuple_mul ⟨_, ho, rfl⟩ F.entry_tuple_mul (F.args_tuple_mul_2 _ _) (tuple_mul0 l _ n dd sl k t c0 rfl) ⟨ho, ?_⟩⟩)
  exact ⟨.ref l, H, I, rfl, q⟩
end L2
namespace Mir
open PySem PySem.Spec PyProof.Rows L2
/-! ### answers -/
def noC : D → Prop
  | .list _ => False
  | .dict _ => False
  | _ => True
theorem view_rep {g : Gx} {F H : Hp} {v : V} : ∀ {d : D}, noC d → (View g F H v d ↔ Rep g F v d)
  | .none, _ => Iff.rfl
  | .bool _, _ => Iff.rfl
  | .int _, _ => Iff.rfl
  | .str _, _ => Iff.rfl
  | .tuple _, _ => Iff.rfl
/-- what follows takes the answer d, new if it is a list or a dict -/
def Ans (g : Gx) (F H : Hp) (d : D) (Q : VK) : Prop := ∀ v F' H' Bs, Grow F H F' H' → Own g F' H' .any v d Bs → Bs.Nodup → (∀ a ∈ Bs, F' a = none ∧ H a = none) → Q v H'
theorem Ans.rep {g : Gx} {F H F' H' : Hp} {d : D} {Q : VK} {v : V} (q : Ans g F H d Q) (n : noC d) (w : Grow F H F' H') (r : Rep g F' v d) : Q v H' := by
  refine q v F' H' [] w ⟨?_, (view_rep n).mpr r⟩ List.nodup_nil (fun a m => nomatch m)
  cases d <;> first | rfl | exact n.elim
theorem Ans.here {g : Gx} {F H : Hp} {d : D} {Q : VK} {v : V} (q : Ans g F H d Q) (gd : Good F H) (n : noC d) (r : Rep g F v d) : Q v H := q.rep n (.refl gd) r
theorem Good.nn {F H : Hp} (gd : Good F H) {p : Addr} (h : H p = none) : F p = none := by
  cases q : F p with
  | none => rfl
  | some u => have := gd.sub p u q; rw [h] at this; cases this
theorem Ans.lst {g : Gx} {F H : Hp} {ds : List D} {Q : VK} {vs : List V} {p : Addr} (q : Ans g F H (.list ds) Q) (gd : Good F H) (h : H p = none) (r : RepL g F vs ds) : Q (.ref p) (upd H p (.lst vs)) :=
  q _ F _ [p] (.mk0 gd h fun _ e => nomatch e) ⟨rfl, p, vs, rfl, upd_same, r⟩ (by simp) fun a m => by
    obtain rfl : a = p := by simpa using m
    exact ⟨gd.nn h, h⟩
theorem Ans.tup {g : Gx} {F H : Hp} {ds : List D} {Q : VK} {vs : List V} {p : Addr} (q : Ans g F H (.tuple ds) Q) (gd : Good F H) (h : H p = none) (r : RepL g F vs ds) : Q (.ref p) (upd H p (.tup vs)) := by
  have w := Grow.mk1 (p := p) (o := .tup vs) gd h (fun _ e => nomatch e)
  exact q.rep trivial w (.tup (.inl (.inl upd_same)) (r.mono w.sub))
/-- an operator on two things seen -/
def rA (g : Gx) (f : D → D → Option D) : R2 := fun x y H Q => ∃ F a b d, Good F H ∧ View g F H x a ∧ View g F H y b ∧ f a b = some d ∧ Ans g F H d Q
section
variable {X : Cx} {tb : Addr → Prop} {e e1 e2 : Expr} {sh : List Sl} {env : List D} {m m1 m2 : Option D} {pos : Pos}
theorem twoA {g : Gx} {f : D → D → Option D} {σ : L2.St} {H : Hp} {Q : VK} (h : tO g .any sh env (m1.bind fun a => m2.bind fun b => f a b) σ H Q) :
    tOp (rA g f) (tV g sh env m1) (tV g sh env m2) σ H Q := by
  obtain ⟨F, A, d, s, e, q⟩ := h
  obtain ⟨a, ha, e⟩ := Option.bind_eq_some_iff.mp e
  obtain ⟨b, hb, e⟩ := Option.bind_eq_some_iff.mp e
  exact ⟨F, A, a, s, ha, fun x F1 H1 w1 p1 => ⟨F1, A, b, s.grow w1, hb, fun y F2 H2 w2 p2 => ⟨F2, a, b, d, w2.good, w2.view p1, p2, e, fun v F' H' Bs w o nd n => q v F' H' Bs ((w1.trans w2).trans w) o nd fun a m => ⟨(n a m).1, (w1.trans w2).keep.nn (n a m).2⟩⟩⟩⟩
theorem e_binA {op : Operator} {f : D → D → Option D} (ho : OpR X (binaryOp op) (rA (gx tb X) f)) (h1 : PE X e1 (tV (gx tb X) sh env m1)) (h2 : PE X e2 (tV (gx tb X) sh env m2)) :
    PE X (.BinOp e1 op e2 pos) (tO (gx tb X) .any sh env (m1.bind fun a => m2.bind fun b => f a b)) := (pe_op ho h1 h2).imp fun _ _ _ h => twoA h
end
/-! ### strings -/
theorem ok_app {a b : Str} (ha : PyData.strOk a = true) (hb : PyData.strOk b = true) : PyData.strOk (a ++ b) = true := by
  unfold PyData.strOk at *
  show (a.cps ++ b.cps).all _ = true
  rw [Array.all_append, ha, hb]; rfl
theorem ok_of {x : Str} (h : ∀ c ∈ x.cps.toList, c < 0x110000) : PyData.strOk x = true := by
  unfold PyData.strOk
  rw [Array.all_eq_true']
  intro c m
  exact decide_eq_true (h c (by simpa using m))
theorem of_ok {x : Str} (h : PyData.strOk x = true) : ∀ c ∈ x.cps.toList, c < 0x110000 := by
  unfold PyData.strOk at h
  rw [Array.all_eq_true'] at h
  intro c m
  exact of_decide_eq_true (h c (by simpa using m))
theorem ok_sub {x y : Str} (h : PyData.strOk x = true) (k : ∀ c ∈ y.cps.toList, c ∈ x.cps.toList) : PyData.strOk y = true := ok_of fun c m => of_ok h c (k c m)
theorem len_app (a b : Str) : (a ++ b).length = a.length + b.length := by
  show (a.cps ++ b.cps).size = _
  rw [Array.size_append]; rfl
/-! ### arithmetic -/
def pAdd : D → D → Option D
  | .int a, .int b => some (.int (a + b))
  | .str a, .str b => if a.length + b.length ≤ 16777216 then some (.str (a ++ b)) else none
  | .list a, .list b => if a.length + b.length ≤ 16777216 then some (.list (a ++ b)) else none
  | .tuple a, .tuple b => if a.length + b.length ≤ 16777216 then some (.tuple (a ++ b)) else none
  | _, _ => none
def pSub : D → D → Option D
  | .int a, .int b => some (.int (a - b))
  | _, _ => none
/-- one factor below 2^64 -/
def small64b (i : Int) : Bool := decide (-(2 ^ 64) < i) && decide (i < 2 ^ 64)
def repS (x : Str) (n : Int) : Str := ⟨(List.replicate n.toNat x.cps.toList).flatten.toArray⟩
def pMul : D → D → Option D
  | .int a, .int b => if small64b a || small64b b then some (.int (a * b)) else none
  | .str x, .int n => if n ≤ 1000000 ∧ -1000000 ≤ n ∧ x.length * n.toNat ≤ 16777216 then some (.str (repS x n)) else none
  | .list xs, .int n => if n ≤ 1000000 ∧ -1000000 ≤ n ∧ xs.length * n.toNat ≤ 16777216 then some (.list (List.replicate n.toNat xs).flatten) else none
  | .tuple xs, .int n => if 2 ≤ n ∧ n ≤ 1000 ∧ xs.length ≤ 1000 then some (.tuple (List.replicate n.toNat xs).flatten) else none
  | _, _ => none
def pFdiv : D → D → Option D
  | .int a, .int b => if 0 < b ∧ b < 1073741824 then some (.int (a / b)) else none
  | _, _ => none
def pMod : D → D → Option D
  | .int a, .int b => if 0 < b then some (.int (a % b)) else none
  | _, _ => none
def pPow : D → D → Option D
  | .int a, .int b => if 0 ≤ b ∧ b ≤ 1000000 ∧ a.natAbs < 2 ^ 64 then some (.int (a ^ b.toNat)) else none
  | _, _ => none
theorem lim_eq : sizeLine = 16777216 := sizeLine_eq
section
variable {X : Cx} {tb : Addr → Prop}
theorem o_add : OpR X (binaryOp .Add) (rA (gx tb X) pAdd) :=
  (op_add.or (op_add_str.or (op_cat.or op_catA))).imp fun x y H Q ⟨F, a, b, d, gd, pa, pb, e, q⟩ => by
    unfold pAdd at e
    split at e
    · cases pa; cases pb; cases e
      exact .inl ⟨_, _, rfl, rfl, q.here gd trivial (.int _)⟩
    · cases pa with | str _ ka la =>
      cases pb with | str _ kb lb =>
      split at e
      · cases e
        rename_i hl
        exact .inr (.inl ⟨_, _, rfl, rfl, by rw [lim_eq]; exact hl, q.here gd trivial (.str _ (ok_app ka kb) (by rw [len_app]; exact hl))⟩)
      · cases e
    · obtain ⟨p, vs, rfl, h1, r1⟩ := pa
      obtain ⟨p', ws, rfl, h2, r2⟩ := pb
      split at e
      · cases e
        exact .inr (.inr (.inl ⟨p, p', vs, ws, rfl, rfl, h1, h2, by rw [lim_eq, r1.length, r2.length]; assumption, fun l hl => q.lst gd hl (r1.append r2)⟩))
      · cases e
    · cases pa with | @tup p vs _ h1 r1 =>
      cases pb with | @tup p' ws _ h2 r2 =>
      split at e
      · cases e
        refine .inr (.inr (.inr ⟨p, p', vs, ws, rfl, rfl, sub_t gd.sub h1, sub_t gd.sub h2, by rw [lim_eq, r1.length, r2.length]; assumption, fun h0 => ?_, fun _ h0 => ?_, fun _ _ l hl => q.tup gd hl (r1.append r2)⟩))
        · subst h0; cases r1
          exact q.here gd trivial (.tup h2 r2)
        · subst h0; cases r2
          rw [List.append_nil] at q
          exact q.here gd trivial (.tup h1 r1)
      · cases e
    · cases e
theorem o_sub : OpR X (binaryOp .Sub) (rA (gx tb X) pSub) := op_sub.imp fun x y H Q ⟨F, a, b, d, gd, pa, pb, e, q⟩ => by
  unfold pSub at e
  split at e
  · cases pa; cases pb; cases e
    exact ⟨_, _, rfl, rfl, q.here gd trivial (.int _)⟩
  · cases e
theorem rep_fold (x : Array Nat) : ∀ (k : Nat) (acc : Array Nat), (List.replicate k x).foldl (· ++ ·) acc = acc ++ (List.replicate k x.toList).flatten.toArray
  | 0, acc => by simp
  | k + 1, acc => by
    rw [List.replicate_succ, List.foldl_cons, rep_fold x k, List.replicate_succ, List.flatten_cons]
    apply Array.ext'
    simp [List.append_assoc]
def rMulS : R2 := fun x y H Q => ∃ z n, x = .str z ∧ y = .int n ∧ n ≤ 1000000 ∧ -1000000 ≤ n ∧ z.length * n.toNat ≤ 16777216 ∧ Q (.str (repS z n)) H
theorem op_mulS : OpR X (binaryOp .Mult) rMulS := by
  intro pins s σ H x y v u Q I rx ry h
  obtain ⟨z, n, rfl, rfl, h1, h2, h3, q⟩ := h
  obtain ⟨t, rfl⟩ := rx
  obtain ⟨t', rfl⟩ := ry
  refine PySem.P.mul_str (by
    rw [decide_eq_false (by omega), decide_eq_false (by omega)]; rfl) (fun _ _ h4 => ?_) (fun _ _ => ?_) ?_
  · have h5 : (1 : Int) ≤ n ∨ n < 1 := by omega
    rcases h5 with h5 | h5
    · have h6 : ((2 : Int) ^ 63 - 1) / 1000000 ≤ (2 ^ 63 - 1) / n := by
        apply Int.le_ediv_of_mul_le (by omega)
        have : ((2 : Int) ^ 63 - 1) / 1000000 * n ≤ ((2 : Int) ^ 63 - 1) / 1000000 * 1000000 := Int.mul_le_mul_of_nonneg_left h1 (by decide)
        have h7 : ((2 : Int) ^ 63 - 1) / 1000000 * 1000000 ≤ 2 ^ 63 - 1 := Int.ediv_mul_le _ (by decide)
        omega
      have h8 : z.length ≤ 16777216 := by
        have : 1 ≤ n.toNat := by omega
        exact Nat.le_trans (Nat.le_mul_of_pos_right _ this) h3
      have h9 : ((2 : Int) ^ 63 - 1) / 1000000 = 9223372036854 := by decide
      omega
    · omega
  · unfold Builtin.Str.tooLong
    rw [lim_eq]
    exact decide_eq_false (by omega)
  · split
    · rename_i h4
      have h5 : repS z n = Str.empty := by
        unfold repS
        rw [show n.toNat = 0 by omega]; rfl
      rw [h5] at q
      exact ⟨by decide, .str Str.empty, H, I.tok _, ⟨_, rfl⟩, q⟩
    · split
      · rename_i h4 h5
        have h6 : repS z n = z := by
          rw [Bool.or_eq_true, beq_iff_eq, beq_iff_eq] at h5
          unfold repS
          rcases h5 with rfl | h5
          · apply PySem.W.str_of_cps; simp
          · have h7 : z.cps = #[] := Array.eq_empty_of_size_eq_zero h5
            apply PySem.W.str_of_cps; simp [h7]
        rw [h6] at q
        exact ⟨.str z, H, I, ⟨_, rfl⟩, q⟩
      · refine ⟨?_, .str _, H, I.tok _, ⟨_, rfl⟩, ?_⟩
        · show ((List.replicate n.toNat z.cps).foldl (· ++ ·) #[]).size ≤ sizeLine
          rw [rep_fold, lim_eq]
          have : (List.replicate n.toNat z.cps.toList).flatten.length = n.toNat * z.length := by
            simp [Str.length]
          simp only [Array.empty_append, List.size_toArray, this]
          rw [Nat.mul_comm]; exact h3
        · rw [rep_fold]
          simp only [Array.empty_append]
          exact q
theorem len_rep (z : Str) (n : Int) : (repS z n).length = z.length * n.toNat := by
  show ((List.replicate n.toNat z.cps.toList).flatten.toArray).size = _
  simp [Str.length, Nat.mul_comm]
theorem ok_rep {x : Str} {n : Int} (h : PyData.strOk x = true) : PyData.strOk (repS x n) = true := ok_sub h fun c m => by
  unfold repS at m
  simp only [List.mem_flatten, List.mem_replicate] at m
  obtain ⟨l, ⟨_, rfl⟩, m⟩ := m
  exact m
theorem o_mul : OpR X (binaryOp .Mult) (rA (gx tb X) pMul) := (op_mul.or (op_mulS.or (op_rep.or (op_repT.or op_repT0)))).imp fun x y H Q ⟨F, a, b, d, gd, pa, pb, e, q⟩ => by
  unfold pMul at e
  split at e
  · cases pa; cases pb
    split at e
    · rename_i hs
      cases e
      refine .inl ⟨_, _, rfl, rfl, ?_, q.here gd trivial (.int _)⟩
      simpa [small64b, CMul] using hs
    · cases e
  · cases pa with | str _ ka la =>
    cases pb
    split at e
    · rename_i hs
      cases e
      exact .inr (.inl ⟨_, _, rfl, rfl, hs.1, hs.2.1, hs.2.2, q.here gd trivial (.str _ (ok_rep ka) (by rw [len_rep]; exact hs.2.2))⟩)
    · cases e
  · obtain ⟨p, vs, rfl, h1, r1⟩ := pa
    cases pb
    split at e
    · rename_i hs
      cases e
      refine .inr (.inr (.inl ⟨p, _, vs, rfl, rfl, h1, by omega, by omega, by rw [lim_eq, r1.length]; exact hs.2.2, fun l hl => q.lst gd hl (r1.rep _)⟩))
    · cases e
  · cases pa with | @tup p vs _ h1 r1 =>
    cases pb
    split at e
    · rename_i hs
      cases e
      by_cases h0 : vs = []
      · subst h0; cases r1
        have e0 : ∀ n : Nat, (List.replicate n ([] : List PyData)).flatten = [] := by simp
        rw [e0] at q
        exact .inr (.inr (.inr (.inr ⟨p, _, rfl, rfl, sub_t gd.sub h1, hs.1, hs.2.1, q.here gd trivial (.tup h1 .nil)⟩)))
      · exact .inr (.inr (.inr (.inl ⟨p, _, vs, rfl, rfl, sub_t gd.sub h1, h0, hs.1, hs.2.1, by rw [r1.length]; exact hs.2.2, fun l hl => q.tup gd hl (r1.rep _)⟩)))
    · cases e
  · cases e
theorem o_fdiv : OpR X (binaryOp .FloorDiv) (rA (gx tb X) pFdiv) := op_fdiv.imp fun x y H Q ⟨F, a, b, d, gd, pa, pb, e, q⟩ => by
  unfold pFdiv at e
  split at e
  · cases pa; cases pb
    split at e
    · rename_i hs
      cases e
      exact ⟨_, _, rfl, rfl, hs, q.here gd trivial (.int _)⟩
    · cases e
  · cases e
theorem o_mod : OpR X (binaryOp .Mod) (rA (gx tb X) pMod) := op_mod.imp fun x y H Q ⟨F, a, b, d, gd, pa, pb, e, q⟩ => by
  unfold pMod at e
  split at e
  · cases pa; cases pb
    split at e
    · rename_i hs
      cases e
      exact ⟨_, _, rfl, rfl, hs, q.here gd trivial (.int _)⟩
    · cases e
  · cases e
theorem o_pow : OpR X (binaryOp .Pow) (rA (gx tb X) pPow) := op_pow.imp fun x y H Q ⟨F, a, b, d, gd, pa, pb, e, q⟩ => by
  unfold pPow at e
  split at e
  · cases pa; cases pb
    split at e
    · rename_i hs
      cases e
      exact ⟨_, _, rfl, rfl, hs, q.here gd trivial (.int _)⟩
    · cases e
  · cases e
end
end Mir
namespace Mir
open PySem PySem.Spec PyProof.Rows L2
mutual
theorem Rep.dp {g : Gx} {F H : Hp} (s : Sub F H) : ∀ (d : D) (v : V), Rep g F v d → d.hasDict = false → Dp g.K H v d ∧ d.canLay0 = true
  | .none, _, h, _ => by cases h; exact ⟨.non, rfl⟩
  | .bool b, _, h, _ => by cases h; exact ⟨.bl b, rfl⟩
  | .int i, _, h, _ => by cases h; exact ⟨.int i, rfl⟩
  | .str x, _, h, _ => by cases h with | str _ k _ => exact ⟨.str x, by simpa [PyData.canLay0] using k⟩
  | .list ds, _, h, n => by
    cases h with
    | lst h1 h2 =>
      obtain ⟨q1, q2⟩ := RepL.dp s ds _ h2 (by simpa [PyData.hasDict] using n)
      exact ⟨.lst (.inl (.inl (s _ _ h1))) q1, by simpa [PyData.canLay0] using q2⟩
  | .tuple ds, _, h, n => by
    cases h with
    | tup h1 h2 =>
      obtain ⟨q1, q2⟩ := RepL.dp s ds _ h2 (by simpa [PyData.hasDict] using n)
      exact ⟨.tup (sub_t s h1) q1, by simpa [PyData.canLay0] using q2⟩
  | .dict kvs, _, _, n => by simp [PyData.hasDict] at n
theorem RepL.dp {g : Gx} {F H : Hp} (s : Sub F H) : ∀ (ds : List D) (vs : List V), RepL g F vs ds → PyData.hasDictAll ds = false → DpAll g.K H vs ds ∧ PyData.canLayAll0 ds = true
  | [], _, h, _ => by cases h; exact ⟨.nil, rfl⟩
  | d :: ds, _, h, n => by
    cases h with
    | cons h1 h2 =>
      have n' : d.hasDict = false ∧ PyData.hasDictAll ds = false := by simpa [PyData.hasDictAll] using n
      obtain ⟨q1, q2⟩ := Rep.dp s d _ h1 n'.1
      obtain ⟨q3, q4⟩ := RepL.dp s ds _ h2 n'.2
      exact ⟨.cons q1 q3, by simp [PyData.canLayAll0, q2, q4]⟩
end
theorem View.dp {g : Gx} {F H : Hp} {v : V} : ∀ {d : D}, Good F H → View g F H v d → d.hasDict = false → Dp g.K H v d ∧ d.canLay0 = true
  | .list ds, gd, ⟨a, vs, e, h1, h2⟩, n => by
    subst e
    obtain ⟨q1, q2⟩ := RepL.dp gd.sub ds _ h2 (by simpa [PyData.hasDict] using n)
    exact ⟨.lst (.inl (.inl h1)) q1, by simpa [PyData.canLay0] using q2⟩
  | .dict kvs, _, _, n => by simp [PyData.hasDict] at n
  | .none, gd, h, n => Rep.dp gd.sub _ _ h n
  | .bool _, gd, h, n => Rep.dp gd.sub _ _ h n
  | .int _, gd, h, n => Rep.dp gd.sub _ _ h n
  | .str _, gd, h, n => Rep.dp gd.sub _ _ h n
  | .tuple _, gd, h, n => Rep.dp gd.sub _ _ h n
/-- no dict within, not deep -/
def pl (d : D) : Bool := !d.hasDict && decide (d.depth ≤ 60)
theorem pl_nd {d : D} (h : pl d = true) : d.hasDict = false := by
  unfold pl at h; rw [Bool.and_eq_true] at h; simpa using h.1
theorem pl_dp {d : D} (h : pl d = true) : d.depth ≤ 60 := by
  unfold pl at h; rw [Bool.and_eq_true] at h; simpa using h.2
theorem pl_sh {d : D} (h : pl d = true) (k : d.canLay0 = true) : SeqAt.shaped d = true := by
  unfold SeqAt.shaped
  rw [k, Bool.true_and]
  exact decide_eq_true (Nat.le_trans (pl_dp h) (by decide))
/-! ### == and order -/
def cEq (a b : D) : Option Bool := if pl a && pl b then some (PyData.eqv a b) else none
def cNe (a b : D) : Option Bool := if pl a && pl b then some (!PyData.eqv a b) else none
/-- may be ordered -/
def cOk (a b : D) : Bool := pl a && pl b && W.alike a b && !(match a with | .none => true | _ => false)
def cLt (a b : D) : Option Bool := if cOk a b then some (W.dataLt a b) else none
def cGt (a b : D) : Option Bool := if cOk a b then some (W.dataLt b a) else none
def cLe (a b : D) : Option Bool := if cOk a b then some (!W.dataLt b a) else none
def cGe (a b : D) : Option Bool := if cOk a b then some (!W.dataLt a b) else none
def isN : D → Bool
  | .none => true
  | _ => false
def cIsN (a b : D) : Option Bool := match b with
  | .none => some (isN a)
  | _ => none
def cNotN (a b : D) : Option Bool := (cIsN a b).map (!·)
theorem V.non_iff {g : Gx} {F H : Hp} {v : V} {d : D} (h : View g F H v d) : decide (v = .non) = isN d := by
  cases d with
  | none => cases h; rfl
  | bool _ => cases h; rfl
  | int _ => cases h; rfl
  | str _ => cases h; rfl
  | tuple _ => cases h; rfl
  | list _ => obtain ⟨a, _, rfl, _⟩ := h; rfl
  | dict _ => obtain ⟨a, _, rfl, _⟩ := h; rfl
section
variable {X : Cx} {tb : Addr → Prop} {k : Nat}
abbrev rBV (X : Cx) (f : D → D → Option Bool) : R2 := rB (gx tb X) (pView (gx tb X)) (pView (gx tb X)) f
theorem o_eq (hr : Room k X.A) : OpR X (compareOp .Eq) (rBV (tb := tb) X cEq) := (op_eqD hr.units).imp fun x y H Q ⟨F, a, b, t, gd, pa, pb, e, q⟩ => by
  unfold cEq at e
  split at e
  · rename_i h
    rw [Bool.and_eq_true] at h
    cases e
    obtain ⟨d1, c1⟩ := pa.dp gd (pl_nd h.1)
    obtain ⟨d2, c2⟩ := pb.dp gd (pl_nd h.2)
    exact ⟨a, b, d1, d2, pl_sh h.1 c1, pl_sh h.2 c2, q F H (.refl gd)⟩
  · cases e
theorem o_ne (hr : Room k X.A) : OpR X (compareOp .NotEq) (rBV (tb := tb) X cNe) := (op_neD hr.units).imp fun x y H Q ⟨F, a, b, t, gd, pa, pb, e, q⟩ => by
  unfold cNe at e
  split at e
  · rename_i h
    rw [Bool.and_eq_true] at h
    cases e
    obtain ⟨d1, c1⟩ := pa.dp gd (pl_nd h.1)
    obtain ⟨d2, c2⟩ := pb.dp gd (pl_nd h.2)
    exact ⟨a, b, d1, d2, pl_sh h.1 c1, pl_sh h.2 c2, q F H (.refl gd)⟩
  · cases e
theorem ord_ok {op : CmpOp} {f : D → D → Option Bool} {r : D → D → Bool} (hr : Room k X.A) (hf : ∀ a b, f a b = if cOk a b then some (r a b) else none)
    (rule : ∀ (da db : PyData) (A : Around) (s : Shared) (a b : Value) (as bs : List Addr), Reads s.heap a da as → Reads s.heap b db bs → W.alike da db = true → da ≠ .none → A.units + min da.depth db.depth < cLine →
      ∀ (prog : Program) (w : World) (E : Value → Shared → Prop) (Q : Value → Shared → Prop), Q (.bool (r da db)) s → wpAny (model prog w) A (compareOp op a b) Q E s) : OpR X (compareOp op) (rBV (tb := tb) X f) := by
  intro pins s σ H x y v u Q I rx ry ⟨F, a, b, t, gd, pa, pb, e, q⟩
  rw [hf] at e
  split at e
  · rename_i h
    cases e
    unfold cOk at h
    rw [Bool.and_eq_true, Bool.and_eq_true, Bool.and_eq_true] at h
    obtain ⟨⟨⟨h1, h2⟩, h3⟩, h4⟩ := h
    obtain ⟨d1, c1⟩ := pa.dp gd (pl_nd h1)
    obtain ⟨d2, c2⟩ := pb.dp gd (pl_nd h2)
    obtain ⟨as, r1⟩ := Dp.reads I a x v d1 rx
    obtain ⟨bs, r2⟩ := Dp.reads I b y u d2 ry
    have := hr.units
    have := pl_dp h1
    exact rule a b X.A s v u as bs r1 r2 h3 (by rintro rfl; simp at h4) (by omega) X.prog X.w _ _ ⟨.bl _, H, I, rfl, q F H (.refl gd)⟩
  · cases e
theorem o_lt (hr : Room k X.A) : OpR X (compareOp .Lt) (rBV (tb := tb) X cLt) := ord_ok hr (fun _ _ => rfl) W.rcLt_alike
theorem o_gt (hr : Room k X.A) : OpR X (compareOp .Gt) (rBV (tb := tb) X cGt) := ord_ok hr (fun _ _ => rfl) W.rcGt_alike
theorem o_le (hr : Room k X.A) : OpR X (compareOp .LtE) (rBV (tb := tb) X cLe) := ord_ok hr (fun _ _ => rfl) W.rcLe_alike
theorem o_ge (hr : Room k X.A) : OpR X (compareOp .GtE) (rBV (tb := tb) X cGe) := ord_ok hr (fun _ _ => rfl) W.rcGe_alike
theorem o_is : OpR X (compareOp .Is) (rBV (tb := tb) X cIsN) := op_isN.imp fun x y H Q ⟨F, a, b, t, gd, pa, pb, e, q⟩ => by
  unfold cIsN at e
  split at e
  · cases e; cases pb
    refine ⟨rfl, ?_⟩
    rw [V.non_iff pa]
    exact q F H (.refl gd)
  · cases e
theorem o_isnot : OpR X (compareOp .IsNot) (rBV (tb := tb) X cNotN) := op_notN.imp fun x y H Q ⟨F, a, b, t, gd, pa, pb, e, q⟩ => by
  unfold cNotN cIsN at e
  split at e
  · cases e; cases pb
    refine ⟨rfl, ?_⟩
    rw [V.non_iff pa]
    exact q F H (.refl gd)
  · cases e
end
/-! ### in -/
/-- in a list or tuple; a sign in a text -/
def cIn (x c : D) : Option Bool := match c with
  | .list ds => if pl x && pl (.list ds) then some (ds.any fun z => PyData.eqv z x) else none
  | .tuple ds => if pl x && pl (.tuple ds) then some (ds.any fun z => PyData.eqv z x) else none
  | .str z => match x with
    | .str y => match y.cps.toList with
      | [s] => some (decide (s ∈ z.cps.toList))
      | _ => none
    | _ => none
  | _ => none
def cNotIn (x c : D) : Option Bool := (cIn x c).map (!·)
section
variable {X : Cx} {tb : Addr → Prop} {k : Nat}
theorem depth_list (ds : List D) : (PyData.list ds).depth = PyData.depthAll ds + 1 := by simp [PyData.depth]
theorem depth_tuple (ds : List D) : (PyData.tuple ds).depth = PyData.depthAll ds + 1 := by simp [PyData.depth]
theorem in_go (hr : Room k X.A) {neg : Bool} {pins : List (Addr × Obj)} {s : Shared} {σ : L2.St} {H : Hp} {x y : V} {v u : Value} {Q : VK} (I : Inv X pins σ H s) (rx : RelV x v) (ry : RelV y u) {F : Hp} {a b : D} {t : Bool} (gd : Good F H) (pa : View (gx tb X) F H x a) (pb : View (gx tb X) F H y b)
    (e : cIn a b = some t) (q : Q (.bl (neg != t)) H) : wpAny (model X.prog X.w) X.A (compareOp (if neg = true then .NotIn else .In) v u) (EP X pins σ Q) X.xe s := by
  have hu := hr.units
  unfold cIn at e
  split at e
  · rename_i ds
    split at e
    · rename_i h
      rw [Bool.and_eq_true] at h
      cases e
      obtain ⟨d1, c1⟩ := pa.dp gd (pl_nd h.1)
      obtain ⟨d2, c2⟩ := pb.dp gd (pl_nd h.2)
      obtain ⟨as, r1⟩ := Dp.reads I a x v d1 rx
      obtain ⟨bs, r2⟩ := Dp.reads I _ y u d2 ry
      have h2 := pl_dp h.1
      have c2' : PyData.canLayAll0 ds = true := by simpa [PyData.canLay0] using c2
      cases neg with
      | false => exact SeqAt.in_list_reads r2 r1 c2' c1 (by omega) ⟨.bl _, H, I, rfl, by simpa using q⟩
      | true => exact SeqAt.notIn_list_reads r2 r1 c2' c1 (by omega) ⟨.bl _, H, I, rfl, by simpa using q⟩
    · cases e
  · rename_i ds
    split at e
    · rename_i h
      rw [Bool.and_eq_true] at h
      cases e
      obtain ⟨d1, c1⟩ := pa.dp gd (pl_nd h.1)
      obtain ⟨d2, c2⟩ := pb.dp gd (pl_nd h.2)
      obtain ⟨as, r1⟩ := Dp.reads I a x v d1 rx
      obtain ⟨bs, r2⟩ := Dp.reads I _ y u d2 ry
      have h2 := pl_dp h.1
      have c2' : PyData.canLayAll0 ds = true := by simpa [PyData.canLay0] using c2
      cases neg with
      | false => exact SeqAt.in_tuple_reads r2 r1 c2' c1 (by omega) ⟨.bl _, H, I, rfl, by simpa using q⟩
      | true => exact SeqAt.notIn_tuple_reads r2 r1 c2' c1 (by omega) ⟨.bl _, H, I, rfl, by simpa using q⟩
    · cases e
  · rename_i z
    split at e
    · rename_i y'
      split at e
      · rename_i sg hs
        cases e
        cases pa; cases pb
        have ey : y' = ⟨#[sg]⟩ := W.str_of_cps hs
        subst ey
        cases neg with
        | false => exact op_in_sign pins s σ H _ _ v u Q I rx ry ⟨sg, z, rfl, rfl, by simpa using q⟩
        | true => exact op_notIn_sign pins s σ H _ _ v u Q I rx ry ⟨sg, z, rfl, rfl, by simpa using q⟩
      · cases e
    · cases e
  · cases e
theorem o_in (hr : Room k X.A) : OpR X (compareOp .In) (rBV (tb := tb) X cIn) := fun pins s σ H x y v u Q I rx ry ⟨F, a, b, t, gd, pa, pb, e, q⟩ => in_go (neg := false) hr I rx ry gd pa pb e (by simpa using q F H (.refl gd))
theorem o_notin (hr : Room k X.A) : OpR X (compareOp .NotIn) (rBV (tb := tb) X cNotIn) := fun pins s σ H x y v u Q I rx ry ⟨F, a, b, t, gd, pa, pb, e, q⟩ => by
  obtain ⟨c, e', rfl⟩ := Option.map_eq_some_iff.mp e
  exact in_go (neg := true) hr I rx ry gd pa pb e' (by simpa using q F H (.refl gd))
end
end Mir
namespace Mir
open PySem PySem.Spec PyProof.Rows L2
/-! ### x[i] -/
def pIx : D → D → Option D
  | .list ds, .int i => atI ds i
  | .tuple ds, .int i => atI ds i
  | .str z, .int i => (atI z.cps.toList i).map fun c => .str ⟨#[c]⟩
  | _, _ => none
theorem atI_rep {g : Gx} {F : Hp} {vs : List V} {ds : List D} {i : Int} {d : D} (r : RepL g F vs ds) (h : atI ds i = some d) : ∃ v, atI vs i = some v ∧ Rep g F v d := by
  unfold atI at h ⊢
  obtain ⟨j, h1, h2⟩ := Option.bind_eq_some_iff.mp h
  obtain ⟨v, h3, h4⟩ := r.getD h2
  exact ⟨v, by rw [r.length, h1]; exact h3, h4⟩
theorem atI_mem {α : Type} {xs : List α} {i : Int} {x : α} (h : atI xs i = some x) : x ∈ xs := by
  unfold atI at h
  obtain ⟨j, _, h2⟩ := Option.bind_eq_some_iff.mp h
  exact List.mem_of_getElem? h2
section
variable {X : Cx} {tb : Addr → Prop} {e e1 e2 : Expr} {sh : List Sl} {env : List D} {m m1 m2 : Option D} {pos : Pos} {k : Nat}
theorem rep1 {g : Gx} {F : Hp} {z : Str} {c : Nat} (ok : PyData.strOk z = true) (h : c ∈ z.cps.toList) : Rep g F (.str ⟨#[c]⟩) (.str ⟨#[c]⟩) :=
  .str _ (ok_of fun c' m => by simp at m; subst m; exact of_ok ok _ h) (by show (#[c] : Array Nat).size ≤ _; simp)
theorem o_ix : IxR X (rD (gx tb X) (pView (gx tb X)) (pView (gx tb X)) (pRep (gx tb X)) pIx) := ix_seq.imp fun x y H Q ⟨F, a, b, d, gd, pa, pb, e, q⟩ => by
  unfold pIx at e
  split at e
  · obtain ⟨p, vs, rfl, h1, r1⟩ := pa
    cases pb
    obtain ⟨v, h2, r2⟩ := atI_rep r1 e
    exact .inl ⟨p, vs, _, v, rfl, rfl, .inl (.inl h1), h2, q v F H (.refl gd) r2⟩
  · cases pa with | tup h1 r1 =>
    cases pb
    obtain ⟨v, h2, r2⟩ := atI_rep r1 e
    exact .inr (.inl ⟨_, _, _, v, rfl, rfl, sub_t gd.sub h1, h2, q v F H (.refl gd) r2⟩)
  · cases pa with | str _ ka la =>
    cases pb
    obtain ⟨c, h2, rfl⟩ := Option.map_eq_some_iff.mp e
    exact .inr (.inr ⟨_, _, c, rfl, rfl, by rw [lim_eq]; exact la, h2, q _ F H (.refl gd) (rep1 ka (atI_mem h2))⟩)
  · cases e
theorem rep_ints {g : Gx} {F : Hp} : ∀ ns : List Int, RepL g F (ns.map V.int) (ns.map .int)
  | [] => .nil
  | n :: ns => .cons (.int n) (rep_ints ns)
/-- the script's items -/
def pIxS : D → D → Option D
  | .list ds, .int i => atI ds i
  | _, _ => none
theorem o_ixS : IxR X (rD (gx tb X) (pScr (gx tb X)) (pView (gx tb X)) (pRep (gx tb X)) pIxS) := ix_list.imp fun x y H Q ⟨F, a, b, d, gd, ⟨p, ns, ex, ea, hs⟩, pb, e, q⟩ => by
  subst ex; subst ea
  cases b with
  | int i =>
    cases pb
    have e : atI (ns.map PyData.int) i = some d := e
    have r : RepL (gx tb X) F (ns.map V.int) (ns.map .int) := rep_ints ns
    obtain ⟨v, h2, r2⟩ := atI_rep r e
    exact ⟨p, _, i, v, rfl, rfl, sub_l gd.sub hs, h2, q v F H (.refl gd) r2⟩
  | _ => cases e
/-! ### slices -/
def cutD (xs : List D) (lo hi : Option Int) : List D := (xs.drop (HT.sIx xs.length 0 lo)).take (HT.sIx xs.length xs.length hi - HT.sIx xs.length 0 lo)
def pSl (a : D) (lo hi : Option Int) : Option D := match a with
  | .list ds => some (.list (cutD ds lo hi))
  | .tuple ds => some (.tuple (cutD ds lo hi))
  | .str z => some (.str (cutS z lo hi))
  | _ => none
def asInt : D → Option Int
  | .int i => some i
  | _ => none
theorem cut_rep {g : Gx} {F : Hp} {vs : List V} {ds : List D} (r : RepL g F vs ds) (lo hi : Option Int) : RepL g F (cutV vs lo hi) (cutD ds lo hi) := by
  unfold cutV cutD
  rw [r.length]
  exact (r.drop _).take _
theorem cutS_ok {z : Str} (lo hi : Option Int) (h : PyData.strOk z = true) : PyData.strOk (cutS z lo hi) = true := ok_sub h fun c m => by
  unfold cutS at m
  simp only [List.mem_of_mem_drop, List.mem_of_mem_take] at m
  exact List.mem_of_mem_drop (List.mem_of_mem_take m)
def rSlD (g : Gx) : V → Option Int → Option Int → Hp → VK → Prop := fun x lo hi H Q => ∃ F a d, Good F H ∧ View g F H x a ∧ pSl a lo hi = some d ∧ Ans g F H d Q
theorem SlR.imp {r r' : V → Option Int → Option Int → Hp → VK → Prop} (h : SlR X r) (k : ∀ x lo hi H Q, r' x lo hi H Q → r x lo hi H Q) : SlR X r' := fun pins s σ H x v vl vu lo hi sl Q I rx hs pl pu q => h pins s σ H x v vl vu lo hi sl Q I rx hs pl pu (k x lo hi H Q q)
theorem o_sl : SlR X (rSlD (gx tb X)) := SlR.imp (sl_list.or (sl_tupA.or sl_str)) fun x lo hi H Q ⟨F, a, d, gd, pa, e, q⟩ => by
  unfold pSl at e
  split at e
  · obtain ⟨p, vs, rfl, h1, r1⟩ := pa
    cases e
    exact .inl ⟨p, vs, rfl, .inl (.inl h1), fun l hl => q.lst gd hl (cut_rep r1 lo hi)⟩
  · rename_i ds
    cases e
    cases pa with | @tup p vs _ h1 r1 =>
    refine .inr (.inl ⟨p, vs, rfl, sub_t gd.sub h1, fun h => q.here gd trivial ?_, fun _ l hl => q.tup gd hl (cut_rep r1 lo hi)⟩)
    have e2 : cutD ds lo hi = ds := by
      unfold cutD
      rw [r1.length] at h
      rw [h.1, h.2]; simp
    rw [e2]
    exact .tup h1 r1
  · cases e
    cases pa with | str _ ka la =>
    exact .inr (.inr ⟨_, rfl, by rw [lim_eq]; exact la, q.here gd trivial (.str _ (cutS_ok lo hi ka) (Nat.le_trans (cutS_length _ lo hi) la))⟩)
  · cases e
/-- a bound of a slice -/
def tPa (g : Gx) (sh : List Sl) (env : List D) (m : Option (Option Int)) : TO := fun σ H Q => ∃ F A o, St0 g sh env σ F H A ∧ m = some o ∧ ∀ F' H', Grow F H F' H' → Q o H'
theorem PO.imp {e : Option Expr} {t t' : TO} (h : PO X e t) (k : ∀ σ H Q, t' σ H Q → t σ H Q) : PO X e t' := ⟨fun pins s σ H Q I q => h.run pins s σ H Q I (k σ H Q q)⟩
theorem p_none : PO X none (tPa (gx tb X) sh env (some none)) := PO.imp po_none fun σ H Q ⟨F, A, o, s, e, q⟩ => by cases e; exact q F H (.refl s.good)
theorem p_some (h : PE X e (tE (gx tb X) sh env m)) : PO X (some e) (tPa (gx tb X) sh env (m.bind fun d => (asInt d).map some)) := PO.imp (po_some h) fun σ H Q ⟨F, A, o, s, e, q⟩ => by
  obtain ⟨d, hd, e⟩ := Option.bind_eq_some_iff.mp e
  obtain ⟨i, hi, rfl⟩ := Option.map_eq_some_iff.mp e
  refine ⟨F, A, d, s, hd, fun v F1 H1 w1 r => ⟨i, ?_, q F1 H1 w1⟩⟩
  cases d with
  | int j => cases hi; cases r; rfl
  | _ => cases hi
theorem e_sl {lo hi : Option Expr} {ml mh : Option (Option Int)} {p2 : Pos} (h : PE X e (tV (gx tb X) sh env m)) (hl : PO X lo (tPa (gx tb X) sh env ml)) (hh : PO X hi (tPa (gx tb X) sh env mh)) :
    PE X (.Subscript e (.Slice lo hi none p2) pos) (tO (gx tb X) .any sh env (m.bind fun a => ml.bind fun l => mh.bind fun h => pSl a l h)) := (pe_slice o_sl h hl hh).imp fun σ H Q ⟨F, A, d, s, e, q⟩ => by
  obtain ⟨a, ha, e⟩ := Option.bind_eq_some_iff.mp e
  obtain ⟨l, hl, e⟩ := Option.bind_eq_some_iff.mp e
  obtain ⟨h, hh, e⟩ := Option.bind_eq_some_iff.mp e
  exact ⟨F, A, a, s, ha, fun x F1 H1 w1 p1 => ⟨F1, A, l, s.grow w1, hl, fun F2 H2 w2 => ⟨F2, A, h, s.grow (w1.trans w2), hh, fun F3 H3 w3 =>
    ⟨F3, a, d, w3.good, (w2.trans w3).view p1, e, fun v F' H' Bs w o nd n => q v F' H' Bs ((w1.trans (w2.trans w3)).trans w) o nd fun a m => ⟨(n a m).1, (w1.trans (w2.trans w3)).keep.nn (n a m).2⟩⟩⟩⟩⟩
/-! ### calls of built-ins -/
theorem len2 {α : Type} {l : List α} (h : l.length = 2) : ∃ x y, l = [x, y] := by
  match l, h with
  | [x, y], _ => exact ⟨x, y, rfl⟩
/-- one argument, seen as P -/
def rC1 (g : Gx) (P : Pr) (f : D → Option D) : List V → Hp → VK → Prop := fun xs H Q => ∃ F x a d, xs = [x] ∧ Good F H ∧ P F H x a ∧ f a = some d ∧ Ans g F H d Q
def rC2 (g : Gx) (f : D → D → Option D) : List V → Hp → VK → Prop := fun xs H Q => ∃ F x y a b d, xs = [x, y] ∧ Good F H ∧ View g F H x a ∧ View g F H y b ∧ f a b = some d ∧ Ans g F H d Q
theorem Ans.trans {g : Gx} {F H F1 H1 : Hp} {d : D} {Q : VK} (w : Grow F H F1 H1) (q : Ans g F H d Q) : Ans g F1 H1 d Q := fun v F' H' Bs w' o nd n => q v F' H' Bs (w.trans w') o nd fun a m => ⟨(n a m).1, w.keep.nn (n a m).2⟩
theorem tCB_1 {g : Gx} {P : Pr} {f : D → Option D} {σ : L2.St} {H : Hp} {Q : VK} (h : tO g .any sh env (m.bind f) σ H Q) : tCB (rC1 g P f) (tA g [P] sh env [m]) σ H Q := by
  obtain ⟨F, A, d, s, e, q⟩ := h
  obtain ⟨a, ha, e⟩ := Option.bind_eq_some_iff.mp e
  refine ⟨F, A, [a], s, by rw [ha]; rfl, fun vs F1 H1 w1 r => ?_⟩
  obtain ⟨x, rfl⟩ : ∃ x, vs = [x] := List.length_eq_one_iff.mp (by have := r.1; simpa using this)
  exact ⟨F1, x, a, d, rfl, w1.good, r.2.2 0 x a P rfl rfl rfl, e, Ans.trans w1 q⟩
theorem tCB_2 {g : Gx} {f : D → D → Option D} {σ : L2.St} {H : Hp} {Q : VK} (h : tO g .any sh env (m1.bind fun a => m2.bind fun b => f a b) σ H Q) :
    tCB (rC2 g f) (tA g [pView g, pView g] sh env [m1, m2]) σ H Q := by
  obtain ⟨F, A, d, s, e, q⟩ := h
  obtain ⟨a, ha, e⟩ := Option.bind_eq_some_iff.mp e
  obtain ⟨b, hb, e⟩ := Option.bind_eq_some_iff.mp e
  refine ⟨F, A, [a, b], s, by rw [ha, hb]; rfl, fun vs F1 H1 w1 r => ?_⟩
  obtain ⟨x, y, rfl⟩ : ∃ x y, vs = [x, y] := len2 (by have := r.1; simpa using this)
  exact ⟨F1, x, y, a, b, d, rfl, w1.good, r.2.2 0 x a _ rfl rfl rfl, r.2.2 1 y b _ rfl rfl rfl, e, Ans.trans w1 q⟩
variable {x id T : String} {nx : Str} {p : Pos}
theorem e_b1 {P : Pr} {f : D → Option D} (hc : CallR X (.builtin id) (rC1 (gx tb X) P f)) (st : Stays P) (hg : Gl X nx) (hm : X.mg nx = none) (hv : bootBuiltins nx = some (.builtin id)) (h : PE X e (tP (gx tb X) P sh env m)) (hn : nx ≠ "__name__" := by decide) (hdb : (nx == ("__debug__" : Str)) = false := by decide)
    (he : starEach [e] X.env = (false, eval e X.env) :: starEach [] X.env := by rfl) (hpl : (backTo pos (starEach [] X.env)).any (·.1) = false := by rfl) : PE X (.Call (.Name nx p) [e] [] pos) (tO (gx tb X) .any sh env (m.bind f)) :=
  (pe_callB hc hg hm hv (a_cons st h a_nil he) hn hdb he hpl).imp fun _ _ _ h => tCB_1 h
theorem e_t1 {P : Pr} {f : D → Option D} (hc : CallR X (.type T) (rC1 (gx tb X) P f)) (st : Stays P) (hg : Gl X nx) (hm : X.mg nx = none) (hv : bootBuiltins nx = some (.type T)) (h : PE X e (tP (gx tb X) P sh env m)) (hn : nx ≠ "__name__" := by decide) (hdb : (nx == ("__debug__" : Str)) = false := by decide)
    (he : starEach [e] X.env = (false, eval e X.env) :: starEach [] X.env := by rfl) (hpl : (backTo pos (starEach [] X.env)).any (·.1) = false := by rfl) : PE X (.Call (.Name nx p) [e] [] pos) (tO (gx tb X) .any sh env (m.bind f)) :=
  (pe_callTy hc hg hm hv (a_cons st h a_nil he) hn hdb he hpl).imp fun _ _ _ h => tCB_1 h
theorem e_b2 {f : D → D → Option D} (hc : CallR X (.builtin id) (rC2 (gx tb X) f)) (hg : Gl X nx) (hm : X.mg nx = none) (hv : bootBuiltins nx = some (.builtin id)) (h1 : PE X e1 (tV (gx tb X) sh env m1)) (h2 : PE X e2 (tV (gx tb X) sh env m2)) (hn : nx ≠ "__name__" := by decide) (hdb : (nx == ("__debug__" : Str)) = false := by decide)
    (he : starEach [e1, e2] X.env = (false, eval e1 X.env) :: starEach [e2] X.env := by rfl) (he2 : starEach [e2] X.env = (false, eval e2 X.env) :: starEach [] X.env := by rfl) (hpl : (backTo pos (starEach [e2] X.env)).any (·.1) = false := by rfl) :
    PE X (.Call (.Name nx p) [e1, e2] [] pos) (tO (gx tb X) .any sh env (m1.bind fun a => m2.bind fun b => f a b)) :=
  (pe_callB hc hg hm hv (a_cons (st_view _) h1 (a_cons (st_view _) h2 a_nil he2) he) hn hdb he hpl).imp fun _ _ _ h => tCB_2 h
def pLen : D → Option D
  | .list ds => some (.int ds.length)
  | .tuple ds => some (.int ds.length)
  | .str z => some (.int z.length)
  | _ => none
theorem o_len : CallR X (.builtin "len") (rC1 (gx tb X) (pView (gx tb X)) pLen) := call_len.imp fun xs H Q ⟨F, x, a, d, ex, gd, pa, e, q⟩ => by
  unfold pLen at e
  split at e
  · cases e
    obtain ⟨p, vs, rfl, h1, r1⟩ := pa
    exact ⟨_, vs.length, ex, .inl ⟨vs, .inl (.inl h1), rfl⟩, by rw [r1.length]; exact q.here gd trivial (.int _)⟩
  · cases e
    cases pa with | tup h1 r1 =>
    exact ⟨_, _, ex, .inr ⟨_, sub_t gd.sub h1, rfl⟩, by rw [r1.length]; exact q.here gd trivial (.int _)⟩
  · cases e
    cases pa with | str _ ka la =>
    exact ⟨_, _, ex, ⟨by rw [lim_eq]; exact la, rfl⟩, q.here gd trivial (.int _)⟩
  · cases e
theorem o_lenS : CallR X (.builtin "len") (rC1 (gx tb X) (pScr (gx tb X)) pLen) := call_len.imp fun xs H Q ⟨F, x, a, d, ex, gd, ⟨p, ns, e1, e2, hs⟩, e, q⟩ => by
  subst e1; subst e2
  cases e
  refine ⟨_, (ns.map V.int).length, ex, .inl ⟨_, sub_l gd.sub hs, rfl⟩, ?_⟩
  rw [List.length_map]
  rw [List.length_map] at q
  exact q.here gd trivial (.int _)
def pAbs : D → Option D
  | .int i => some (.int (if i < 0 then -i else i))
  | _ => none
theorem o_abs : CallR X (.builtin "abs") (rC1 (gx tb X) (pView (gx tb X)) pAbs) := call_abs.imp fun xs H Q ⟨F, x, a, d, ex, gd, pa, e, q⟩ => by
  unfold pAbs at e
  split at e
  · cases e; cases pa
    exact ⟨_, ex, q.here gd trivial (.int _)⟩
  · cases e
def pInt : D → Option D
  | .int i => some (.int i)
  | .bool b => some (.int (if b = true then 1 else 0))
  | _ => none
theorem o_int : CallR X (.type "int") (rC1 (gx tb X) (pView (gx tb X)) pInt) := call_int1.imp fun xs H Q ⟨F, x, a, d, ex, gd, pa, e, q⟩ => by
  unfold pInt at e
  split at e
  · cases e; cases pa
    exact .inl ⟨_, ex, q.here gd trivial (.int _)⟩
  · cases e; cases pa
    exact .inr ⟨_, ex, q.here gd trivial (.int _)⟩
  · cases e
def pTup : D → Option D
  | .list ds => some (.tuple ds)
  | .tuple ds => some (.tuple ds)
  | _ => none
theorem o_tup : CallR X (.type "tuple") (rC1 (gx tb X) (pView (gx tb X)) pTup) := call_tuple_of.imp fun xs H Q ⟨F, x, a, d, ex, gd, pa, e, q⟩ => by
  unfold pTup at e
  split at e
  · cases e
    obtain ⟨p, vs, rfl, h1, r1⟩ := pa
    exact ⟨p, vs, ex, .inl ⟨.inl (.inl h1), fun l hl => q.tup gd hl r1⟩⟩
  · cases e
    cases pa with | tup h1 r1 =>
    exact ⟨_, _, ex, .inr ⟨sub_t gd.sub h1, q.here gd trivial (.tup h1 r1)⟩⟩
  · cases e
def pList : D → Option D
  | .list ds => some (.list ds)
  | .tuple ds => some (.list ds)
  | _ => none
theorem o_list : CallR X (.type "list") (rC1 (gx tb X) (pView (gx tb X)) pList) := call_list_of.imp fun xs H Q ⟨F, x, a, d, ex, gd, pa, e, q⟩ => by
  unfold pList at e
  split at e
  · cases e
    obtain ⟨p, vs, rfl, h1, r1⟩ := pa
    exact ⟨p, vs, ex, .inl (.inl (.inl h1)), fun l hl => q.lst gd hl r1⟩
  · cases e
    cases pa with | tup h1 r1 =>
    exact ⟨_, _, ex, .inr (sub_t gd.sub h1), fun l hl => q.lst gd hl r1⟩
  · cases e
def pMax2 : D → D → Option D
  | .int i, .int j => some (.int (if j > i then j else i))
  | _, _ => none
def pMin2 : D → D → Option D
  | .int i, .int j => some (.int (if j < i then j else i))
  | _, _ => none
theorem o_max2 (hc : X.calm = true) : CallR X (.builtin "max") (rC2 (gx tb X) pMax2) := (call_max2 hc).imp fun xs H Q ⟨F, x, y, a, b, d, ex, gd, pa, pb, e, q⟩ => by
  unfold pMax2 at e
  split at e
  · cases e; cases pa; cases pb
    exact ⟨_, _, ex, q.here gd trivial (.int _)⟩
  · cases e
theorem o_min2 (hc : X.calm = true) : CallR X (.builtin "min") (rC2 (gx tb X) pMin2) := (call_min2 hc).imp fun xs H Q ⟨F, x, y, a, b, d, ex, gd, pa, pb, e, q⟩ => by
  unfold pMin2 at e
  split at e
  · cases e; cases pa; cases pb
    exact ⟨_, _, ex, q.here gd trivial (.int _)⟩
  · cases e
/-- isinstance(x, T) -/
def tyD : D → String
  | .none => "NoneType"
  | .bool _ => "bool"
  | .int _ => "int"
  | .str _ => "str"
  | .list _ => "list"
  | .tuple _ => "tuple"
  | .dict _ => "dict"
theorem ty_of {F H : Hp} {v : V} {d : D} (gd : Good F H) (h : View (gx tb X) F H v d) (n : ∀ kvs, d ≠ .dict kvs) : TyX X.K H v (.type (tyD d)) := by
  cases d with
  | none => cases h; exact .base .non
  | bool _ => cases h; exact .base (.bl _)
  | int _ => cases h; exact .base (.int _)
  | str _ => cases h; exact .base (.str _)
  | list _ => obtain ⟨p, vs, rfl, h1, _⟩ := h; exact .base (.lst h1)
  | tuple _ =>
    cases h with | tup h1 _ =>
    rcases sub_t gd.sub h1 with (h2 | ⟨o, h2⟩) | ⟨o, its, n, h2, h3, _⟩
    · exact .base (.tup h2)
    · exact .fTuple h2
    · exact .kTuple h2 h3
  | dict kvs => exact absurd rfl (n kvs)
def pIsi (T : String) (d : D) : Option D := match d with
  | .dict _ => none
  | d => (kitB (tyD d) T).map .bool
theorem e_isi {p2 : Pos} {nT : Str} (hg : Gl X "isinstance") (hm : X.mg "isinstance" = none) (hg2 : Gl X nT) (hm2 : X.mg nT = none) (hv2 : bootBuiltins nT = some (.type T)) (h : PE X e (tV (gx tb X) sh env m)) (hn : nT ≠ "__name__" := by decide) (hdb : (nT == ("__debug__" : Str)) = false := by decide)
    (he : starEach [e, .Name nT p2] X.env = (false, eval e X.env) :: starEach [.Name nT p2] X.env := by rfl) (he2 : starEach [.Name nT p2] X.env = (false, eval (.Name nT p2) X.env) :: starEach [] X.env := by rfl) (hpl : (backTo pos (starEach [.Name nT p2] X.env)).any (·.1) = false := by rfl) :
    PE X (.Call (.Name "isinstance" p) [e, .Name nT p2] [] pos) (tE (gx tb X) sh env (m.bind (pIsi T))) :=
  (pe_callB call_isi hg hm (by decide +kernel) (pa_cons h (pa_cons (pe_bltn hg2 hm2 hv2 (v := .ty T) rfl hn hdb) pa_nil he2) he) (by decide) (by decide) he hpl).imp fun σ H Q ⟨F, A, d, s, e, q⟩ => by
    obtain ⟨a, ha, e⟩ := Option.bind_eq_some_iff.mp e
    refine ⟨F, A, a, s, ha, fun v F1 H1 w1 pv => ?_⟩
    unfold pIsi at e
    split at e
    · cases e
    · rename_i nd
      obtain ⟨b, hb, rfl⟩ := Option.map_eq_some_iff.mp e
      exact ⟨v, .ty T, .type (tyD a), .type T, b, rfl, .ty T, ty_of w1.good pv nd, kit_ty hb, q _ F1 H1 w1 (.bl b)⟩
/-! ### truth -/
def truth : D → Option Bool
  | .none => some false
  | .bool b => some b
  | .int i => some (i != 0)
  | .str z => some ((z.length : Int) != 0)
  | .list ds => some (!ds.isEmpty)
  | .tuple ds => some (!ds.isEmpty)
  | _ => none
theorem empty_of {g : Gx} {F : Hp} {vs : List V} {ds : List D} (r : RepL g F vs ds) : vs.isEmpty = ds.isEmpty := by cases r <;> rfl
theorem tru_of {F H : Hp} {v : V} {d : D} {b : Bool} (gd : Good F H) (h : View (gx tb X) F H v d) (e : truth d = some b) : TruV X.K v H b := by
  cases d with
  | none => cases h; cases e; rfl
  | bool _ => cases h; cases e; rfl
  | int _ => cases h; cases e; rfl
  | str _ => cases h with | str _ _ l => cases e; exact ⟨by rw [lim_eq]; exact l, rfl⟩
  | list _ => obtain ⟨p, vs, rfl, h1, r⟩ := h; cases e; exact .inl ⟨vs, .inl (.inl h1), by rw [empty_of r]⟩
  | tuple _ => cases h with | tup h1 r => cases e; exact .inr (.inl ⟨_, sub_t gd.sub h1, by rw [empty_of r]⟩)
  | dict _ => cases e
theorem t_val (h : PE X e (tV (gx tb X) sh env m)) (he : ∀ whole, isTrue e X.env whole = (do let v ← whole; standAt e.pos; holding [v] (truthy v)) := by intro _; rfl) : PT X e (tT (gx tb X) sh env (m.bind truth)) :=
  (pt_truth h he).imp fun σ H Q ⟨F, A, b, s, e, q⟩ => by
    obtain ⟨a, ha, e⟩ := Option.bind_eq_some_iff.mp e
    exact ⟨F, A, a, s, ha, fun v F1 H1 w1 pv => ⟨b, tru_of w1.good pv e, q F1 H1 w1⟩⟩
/-- x and y, x or y, not x as values -/
def vAnd (a b : Option D) : Option D := a.bind fun x => (truth x).bind fun t => if t = true then b else some x
def vOr (a b : Option D) : Option D := a.bind fun x => (truth x).bind fun t => if t = true then some x else b
theorem e_and {rest : List Expr} (h1 : PE X e1 (tE (gx tb X) sh env m1)) (h2 : PE X (.BoolOp .And (e2 :: rest) pos) (tE (gx tb X) sh env m2)) : PE X (.BoolOp .And (e1 :: e2 :: rest) pos) (tE (gx tb X) sh env (vAnd m1 m2)) :=
  (pe_andT h1 h2).imp fun σ H Q ⟨F, A, d, s, e, q⟩ => by
    obtain ⟨a, ha, e⟩ := Option.bind_eq_some_iff.mp e
    obtain ⟨t, ht, e⟩ := Option.bind_eq_some_iff.mp e
    refine ⟨F, A, a, s, ha, fun v F1 H1 w1 pv => ⟨t, tru_of w1.good (RepL.view w1.good pv) ht, ?_⟩⟩
    cases t with
    | true => exact ⟨F1, A, d, s.grow w1, e, fun v F' H' w => q v F' H' (w1.trans w)⟩
    | false => cases e; exact q v F1 H1 w1 pv
theorem e_or {rest : List Expr} (h1 : PE X e1 (tE (gx tb X) sh env m1)) (h2 : PE X (.BoolOp .Or (e2 :: rest) pos) (tE (gx tb X) sh env m2)) : PE X (.BoolOp .Or (e1 :: e2 :: rest) pos) (tE (gx tb X) sh env (vOr m1 m2)) :=
  (pe_orT h1 h2).imp fun σ H Q ⟨F, A, d, s, e, q⟩ => by
    obtain ⟨a, ha, e⟩ := Option.bind_eq_some_iff.mp e
    obtain ⟨t, ht, e⟩ := Option.bind_eq_some_iff.mp e
    refine ⟨F, A, a, s, ha, fun v F1 H1 w1 pv => ⟨t, tru_of w1.good (RepL.view w1.good pv) ht, ?_⟩⟩
    cases t with
    | false => exact ⟨F1, A, d, s.grow w1, e, fun v F' H' w => q v F' H' (w1.trans w)⟩
    | true => cases e; exact q v F1 H1 w1 pv
theorem e_and1 (h : PE X e (tE (gx tb X) sh env m)) : PE X (.BoolOp .And [e] pos) (tE (gx tb X) sh env m) := pe_one h
theorem e_or1 (h : PE X e (tE (gx tb X) sh env m)) : PE X (.BoolOp .Or [e] pos) (tE (gx tb X) sh env m) := pe_one h
theorem e_not (h : PE X e (tE (gx tb X) sh env m)) : PE X (.UnaryOp .Not e pos) (tE (gx tb X) sh env (m.bind fun d => (truth d).map fun b => .bool (!b))) :=
  (pe_notT h).imp fun σ H Q ⟨F, A, d, s, e, q⟩ => by
    obtain ⟨a, ha, e⟩ := Option.bind_eq_some_iff.mp e
    obtain ⟨t, ht, rfl⟩ := Option.map_eq_some_iff.mp e
    exact ⟨F, A, a, s, ha, fun v F1 H1 w1 pv => ⟨t, tru_of w1.good (RepL.view w1.good pv) ht, q _ F1 H1 w1 (.bl _)⟩⟩
end
end Mir
namespace Mir
open PySem PySem.Spec PyProof.Rows L2
/-- what statements may do: new objects, their own ones changed or frozen -/
structure Evo (F H : Hp) (A : AF) (F' H' : Hp) (A' : AF) : Prop where
  sub : Sub F F'
  keep : ∀ a o, H a = some o → (∀ i, a ∉ A i) → H' a = some o ∨ ((∃ ps, o = .tbl ps) ∧ ∃ qs, H' a = some (.tbl qs) ∧ TriplesOk qs.toList)
  own : ∀ i, ∀ a ∈ A' i, (∃ j, a ∈ A j) ∨ H a = none
  new : ∀ a, F a = none → F' a ≠ none → (∃ j, a ∈ A j) ∨ H a = none
theorem Evo.refl (F H : Hp) (A : AF) : Evo F H A F H A := ⟨.refl _, fun _ _ h _ => .inl h, fun i a m => .inl ⟨i, m⟩, fun _ h h' => absurd h h'⟩
theorem Evo.of {F H F' H' : Hp} {A : AF} (w : Grow F H F' H') : Evo F H A F' H' A := ⟨w.sub, fun a o h _ => w.keep a o h, fun i a m => .inl ⟨i, m⟩, fun a h h' => .inr (w.new a h h')⟩
theorem Evo.back {F H F' H' : Hp} {A A' : AF} (x : Evo F H A F' H' A') {a : Addr} (h : H' a = none) : (∃ j, a ∈ A j) ∨ H a = none := by
  cases e : H a with
  | none => exact .inr rfl
  | some o =>
    refine .inl (Classical.byContradiction fun n => ?_)
    rcases x.keep a o e (fun i m => n ⟨i, m⟩) with h1 | ⟨_, _, h1, _⟩ <;> (rw [h] at h1; cases h1)
theorem Evo.trans {F H F1 H1 F2 H2 : Hp} {A A1 A2 : AF} (x : Evo F H A F1 H1 A1) (y : Evo F1 H1 A1 F2 H2 A2) : Evo F H A F2 H2 A2 := by
  have self : ∀ a, (∃ j, a ∈ A1 j) ∨ H1 a = none → (∃ j, a ∈ A j) ∨ H a = none := fun a h => by
    rcases h with ⟨j, m⟩ | h
    · exact x.own j a m
    · exact x.back h
  refine ⟨x.sub.trans y.sub, fun a o h n => ?_, fun i a m => self a (y.own i a m), fun a h h' => ?_⟩
  · have n1 : ∀ i, a ∉ A1 i := fun i m => by
      rcases x.own i a m with ⟨j, m'⟩ | h0
      · exact n j m'
      · rw [h] at h0; cases h0
    rcases x.keep a o h n with h1 | ⟨⟨ps, rfl⟩, qs, h1, k1⟩
    · exact y.keep a o h1 n1
    · rcases y.keep a _ h1 n1 with h2 | ⟨_, rs, h2, k2⟩
      · exact .inr ⟨⟨ps, rfl⟩, qs, h2, k1⟩
      · exact .inr ⟨⟨ps, rfl⟩, rs, h2, k2⟩
  · cases e : F1 a with
    | none => exact self a (y.new a e h')
    | some o => exact x.new a h (by rw [e]; simp)
/-- what is wanted behind a block: at its end, of a returned thing, behind a break -/
structure Kont (ρ : Type) where
  ns : List Sl
  nx : List D → ρ → Prop
  rT : OT
  rt : D → ρ → Prop
  bs : List Sl
  bk : List D → ρ → Prop
structure EndsOk {ρ : Type} (g : Gx) (κ : Kont ρ) (D : Ends) (F H : Hp) (A : AF) (r : ρ) : Prop where
  nx : ∀ env σ F' H' A', Evo F H A F' H' A' → St0 g κ.ns env σ F' H' A' → κ.nx env r → D.nx σ H'
  rt : ∀ d v F' H' A' Bs, Evo F H A F' H' A' → Good F' H' → Own g F' H' κ.rT v d Bs → Bs.Nodup → (∀ a ∈ Bs, F' a = none ∧ ((∃ j, a ∈ A j) ∨ H a = none)) → κ.rt d r → D.rt v H'
  bk : ∀ env σ F' H' A', Evo F H A F' H' A' → St0 g κ.bs env σ F' H' A' → κ.bk env r → D.bk σ H'
theorem EndsOk.step {ρ : Type} {g : Gx} {κ : Kont ρ} {D : Ends} {F H F' H' : Hp} {A A' : AF} {r : ρ} (x : EndsOk g κ D F H A r) (y : Evo F H A F' H' A') : EndsOk g κ D F' H' A' r :=
  ⟨fun env σ F2 H2 A2 z s k => x.nx env σ F2 H2 A2 (y.trans z) s k, fun d v F2 H2 A2 Bs z gd o nd n k => x.rt d v F2 H2 A2 Bs (y.trans z) gd o nd (fun a m => ⟨(n a m).1, by
    rcases (n a m).2 with ⟨j, q⟩ | q
    · exact y.own j a q
    · exact y.back q⟩) k, fun env σ F2 H2 A2 z s k => x.bk env σ F2 H2 A2 (y.trans z) s k⟩
/-- a block's canonical reading -/
def tS {ρ : Type} (g : Gx) (sh : List Sl) (env : List D) (κ : Kont ρ) (m : Option ρ) : TS := fun D σ H => ∃ F A r, St0 g sh env σ F H A ∧ m = some r ∧ EndsOk g κ D F H A r
/-! ### slots changed -/
section
variable {g : Gx} {sh sh' : List Sl} {env env' : List D} {σ : L2.St} {F H F' H' : Hp} {A : AF} {i : Nat}
abbrev AFset (A : AF) (i : Nat) (Bs : List Addr) : AF := fun j => if j = i then Bs else A j
theorem St0.put (s : St0 g sh env σ F H A) {t : Sl} {d : D} {v : V} {Bs : List Addr} (hi : i < sh.length) (ok : SlotOk g F H t d (some v) Bs) (nd : Bs.Nodup) (n : ∀ a ∈ Bs, F a = none ∧ ∀ j, j ≠ i → a ∉ A j) :
    St0 g (sh.set i t) (env.set i d) (σ.set i (some v)) F H (AFset A i Bs) := by
  refine ⟨s.good, by simp [s.le], by simp [s.ls], fun j t' d' x h1 h2 h3 => ?_, fun j hj => ?_, fun j a m => ?_, fun j => ?_, fun j l hjl a m m' => ?_, s.tb⟩
  · by_cases hj : j = i
    · subst hj
      rw [List.getElem?_set_self (by simpa using hi)] at h1
      rw [List.getElem?_set_self (by rw [s.le]; exact hi)] at h2
      rw [List.getElem?_set_self (by rw [s.ls]; exact hi)] at h3
      cases h1; cases h2; cases h3
      simp only [AFset, if_pos]; exact ok
    · rw [List.getElem?_set_ne (Ne.symm hj)] at h1 h2 h3
      simp only [AFset, if_neg hj]; exact s.ok j t' d' x h1 h2 h3
  · rw [List.length_set] at hj
    have : j ≠ i := by omega
    simp only [AFset, if_neg this]; exact s.out j hj
  · by_cases hj : j = i
    · simp only [AFset, if_pos hj] at m; exact (n a m).1
    · simp only [AFset, if_neg hj] at m; exact s.fre j a m
  · by_cases hj : j = i
    · simp only [AFset, if_pos hj]; exact nd
    · simp only [AFset, if_neg hj]; exact s.nd j
  · by_cases hj : j = i
    · have hl : l ≠ i := fun e => hjl (hj.trans e.symm)
      simp only [AFset, if_pos hj] at m
      simp only [AFset, if_neg hl] at m'
      exact (n a m).2 l hl m'
    · simp only [AFset, if_neg hj] at m
      by_cases hl : l = i
      · simp only [AFset, if_pos hl] at m'
        exact (n a m').2 j hj m
      · simp only [AFset, if_neg hl] at m'
        exact s.dj j l hjl a m m'
theorem Evo.put {Bs : List Addr} (n : ∀ a ∈ Bs, (∃ j, a ∈ A j) ∨ H a = none) : Evo F H A F H (AFset A i Bs) :=
  ⟨.refl _, fun _ _ h _ => .inl h, fun j a m => by
    by_cases hj : j = i
    · simp only [AFset, if_pos hj] at m; exact n a m
    · simp only [AFset, if_neg hj] at m; exact .inl ⟨j, m⟩, fun _ h h' => absurd h h'⟩
theorem St0.put_fr (s : St0 g sh env σ F H A) {d : D} {v : V} (hi : i < sh.length) (r : Rep g F v d) : St0 g (sh.set i .fr) (env.set i d) (σ.set i (some v)) F H (AFset A i []) :=
  s.put hi ⟨rfl, v, rfl, r⟩ List.nodup_nil (fun _ m => nomatch m)
/-- some slots forgotten, some values with them -/
def Wk : List Sl → List D → List Sl → List D → Prop
  | [], [], [], [] => True
  | s :: sh, d :: env, s' :: sh', d' :: env' => ((s' = s ∧ d' = d) ∨ s' = .un) ∧ Wk sh env sh' env'
  | _, _, _, _ => False
theorem Wk.len : ∀ {sh : List Sl} {env : List D} {sh' : List Sl} {env' : List D}, Wk sh env sh' env' → sh'.length = sh.length ∧ env'.length = env.length
  | [], [], [], [], _ => ⟨rfl, rfl⟩
  | s :: sh, d :: env, s' :: sh', d' :: env', h => by
    obtain ⟨a, b⟩ := Wk.len h.2
    exact ⟨by simp [a], by simp [b]⟩
  | [], [], [], _ :: _, h => h.elim
  | [], [], _ :: _, _, h => h.elim
  | [], _ :: _, _, _, h => h.elim
  | _ :: _, [], _, _, h => h.elim
  | _ :: _, _ :: _, [], _, h => h.elim
  | _ :: _, _ :: _, _ :: _, [], h => h.elim
theorem Wk.at : ∀ {sh : List Sl} {env : List D} {sh' : List Sl} {env' : List D} {i : Nat} {t : Sl} {d : D}, Wk sh env sh' env' → sh'[i]? = some t → env'[i]? = some d → (sh[i]? = some t ∧ env[i]? = some d) ∨ t = .un
  | [], [], [], [], _, _, _, _, h, _ => by simp at h
  | s :: sh, d :: env, s' :: sh', d' :: env', 0, t, x, h, h1, h2 => by
    simp only [List.getElem?_cons_zero, Option.some.injEq] at h1 h2
    subst h1; subst h2
    rcases h.1 with ⟨rfl, rfl⟩ | e
    · exact .inl ⟨rfl, rfl⟩
    · exact .inr e
  | s :: sh, d :: env, s' :: sh', d' :: env', i + 1, t, x, h, h1, h2 => by
    simp only [List.getElem?_cons_succ] at h1 h2 ⊢
    exact Wk.at h.2 h1 h2
  | [], [], [], _ :: _, _, _, _, h, _, _ => h.elim
  | [], [], _ :: _, _, _, _, _, h, _, _ => h.elim
  | [], _ :: _, _, _, _, _, _, h, _, _ => h.elim
  | _ :: _, [], _, _, _, _, _, h, _, _ => h.elim
  | _ :: _, _ :: _, [], _, _, _, _, h, _, _ => h.elim
  | _ :: _, _ :: _, _ :: _, [], _, _, _, h, _, _ => h.elim
/-- the owned objects of the slots that stay -/
def AFwk (sh' : List Sl) (A : AF) : AF := fun i => match sh'[i]? with
  | some .un => []
  | none => []
  | _ => A i
theorem AFwk_sub {a : Addr} (m : a ∈ AFwk sh' A i) : a ∈ A i := by
  unfold AFwk at m
  split at m
  · cases m
  · cases m
  · exact m
theorem St0.wk (s : St0 g sh env σ F H A) (w : Wk sh env sh' env') : St0 g sh' env' σ F H (AFwk sh' A) := by
  obtain ⟨l1, l2⟩ := w.len
  refine ⟨s.good, by rw [l1, l2, s.le], by rw [l1, s.ls], fun j t d x h1 h2 h3 => ?_, fun j hj => ?_, fun j a m => s.fre j a (AFwk_sub m), fun j => ?_, fun j l hjl a m m' => s.dj j l hjl a (AFwk_sub m) (AFwk_sub m'), s.tb⟩
  · rcases w.at h1 h2 with ⟨k1, k2⟩ | rfl
    · have := s.ok j t d x k1 k2 h3
      unfold AFwk
      cases t with
      | un => rw [h1]; rfl
      | fr => rw [h1]; exact this
      | ow _ => rw [h1]; exact this
      | sc => rw [h1]; exact this
    · unfold AFwk; rw [h1]; rfl
  · unfold AFwk; rw [List.getElem?_eq_none hj]
  · unfold AFwk
    split
    · exact List.nodup_nil
    · exact List.nodup_nil
    · exact s.nd j
theorem Evo.wk : Evo F H A F H (AFwk sh' A) := ⟨.refl _, fun _ _ h _ => .inl h, fun j a m => .inl ⟨j, AFwk_sub m⟩, fun _ h h' => absurd h h'⟩
/-- an owned slot frozen -/
theorem St0.frz (s : St0 g sh env σ F H A) {t : OT} {d : D} (h1 : sh[i]? = some (.ow t)) (h2 : env[i]? = some d) :
    St0 g (sh.set i .fr) env σ (fzn F H (A i)) H (AFset A i []) ∧ Evo F H A (fzn F H (A i)) H (AFset A i []) := by
  obtain ⟨x, hx, v, rfl, o⟩ := s.get h1 h2
  have hi : i < sh.length := (List.getElem?_eq_some_iff.mp h1).1
  have fr := s.fre i
  have s' : St0 g (sh.set i .fr) (env.set i d) (σ.set i (some v)) (fzn F H (A i)) H (AFset A i []) := by
    have sb : Sub F (fzn F H (A i)) := fzn_sub fr
    refine ⟨good_fzn s.good o, by simp [s.le], by simp [s.ls], fun j t' d' y k1 k2 k3 => ?_, fun j hj => ?_, fun j a m => ?_, fun j => ?_, fun j l hjl a m m' => ?_, s.tb⟩
    · by_cases hj : j = i
      · subst hj
        rw [List.getElem?_set_self (by simpa using hi)] at k1
        rw [List.getElem?_set_self (by rw [s.le]; exact hi)] at k2
        rw [List.getElem?_set_self (by rw [s.ls]; exact hi)] at k3
        cases k1; cases k2; cases k3
        simp only [AFset, if_pos]; exact ⟨rfl, v, rfl, rep_fzn fr o⟩
      · rw [List.getElem?_set_ne (Ne.symm hj)] at k1 k2 k3
        simp only [AFset, if_neg hj]; exact (s.ok j t' d' y k1 k2 k3).mono sb fun _ _ _ e _ => e
    · rw [List.length_set] at hj
      have : j ≠ i := by omega
      simp only [AFset, if_neg this]; exact s.out j hj
    · by_cases hj : j = i
      · simp only [AFset, if_pos hj] at m; cases m
      · simp only [AFset, if_neg hj] at m
        rw [fzn_out (s.dj j i hj a m)]; exact s.fre j a m
    · by_cases hj : j = i
      · simp only [AFset, if_pos hj]; exact List.nodup_nil
      · simp only [AFset, if_neg hj]; exact s.nd j
    · by_cases hj : j = i
      · simp only [AFset, if_pos hj] at m; cases m
      · simp only [AFset, if_neg hj] at m
        by_cases hl : l = i
        · simp only [AFset, if_pos hl] at m'; cases m'
        · simp only [AFset, if_neg hl] at m'
          exact s.dj j l hjl a m m'
  have e1 : env.set i d = env := by rw [← List.getElem?_eq_some_iff.mp h2 |>.2]; simp
  have e2 : σ.set i (some v) = σ := by rw [← List.getElem?_eq_some_iff.mp hx |>.2]; simp
  rw [e1, e2] at s'
  refine ⟨s', fzn_sub fr, fun _ _ h _ => .inl h, fun j a m => ?_, fun a h h' => ?_⟩
  · by_cases hj : j = i
    · simp only [AFset, if_pos hj] at m; cases m
    · simp only [AFset, if_neg hj] at m; exact .inl ⟨j, m⟩
  · by_cases m : a ∈ A i
    · exact .inl ⟨i, m⟩
    · rw [fzn_out m] at h'; exact absurd h h'
/-- an owned list or dict rewritten -/
theorem St0.rewrite (s : St0 g sh env σ F H A) {l : Addr} {d d' : D} {o : HO} (h1 : sh[i]? = some (.ow .any)) (h2 : env[i]? = some d) (hv : σ[i]? = some (some (.ref l))) (hA : A i = [l]) (no : ∀ ps, o ≠ .tbl ps) (hd : vAd (.ref l) d' = [l]) (vw : View g F (upd H l o) (.ref l) d') :
    St0 g sh (env.set i d') σ F (upd H l o) A ∧ Evo F H A F (upd H l o) A := by
  have hl : l ∈ A i := by rw [hA]; simp
  have fl : F l = none := s.fre i l hl
  have gd : Good F (upd H l o) := ⟨fun a u e => by rw [upd_ne (fun z => by rw [z, fl] at e; cases e)]; exact s.good.sub a u e, s.good.notb⟩
  have nt : ∀ ps, H l ≠ some (.tbl ps) := fun ps e => by
    obtain ⟨u, h3, h4⟩ := s.there i l hl
    rw [e] at h3; exact h4 ps (Option.some.inj h3).symm
  refine ⟨⟨gd, by simp [s.le], s.ls, fun j t x y k1 k2 k3 => ?_, s.out, s.fre, s.nd, s.dj, fun P t => (s.tb P t).upd nt⟩, .refl _, fun a u e n => .inl ?_, fun j a m => .inl ⟨j, m⟩, fun _ h h' => absurd h h'⟩
  · by_cases hj : j = i
    · subst hj
      rw [h1] at k1; cases k1
      rw [hv] at k3; cases k3
      rw [List.getElem?_set_self (List.getElem?_eq_some_iff.mp h2).1] at k2
      cases k2
      exact ⟨_, rfl, hA.trans hd.symm, vw⟩
    · rw [List.getElem?_set_ne (Ne.symm hj)] at k2
      refine (s.ok j t x y k1 k2 k3).mono (.refl _) fun a m u e _ => ?_
      rw [upd_ne (fun z => s.dj j i hj a m (by rw [z]; exact hl))]; exact e
  · rw [upd_ne (fun z => n i (by rw [z]; exact hl))]; exact e
end
/-! ### blocks -/
section
variable {X : Cx} {tb : Addr → Prop} {ρ τ : Type} {st : Stmt} {rest a b : List Stmt} {e e1 e2 : Expr} {sh sh' : List Sl} {env env' : List D} {κ : Kont ρ} {m : Option ρ} {me : Option D} {pos : Pos} {i : Nat} {x : Str}
theorem pss_ex {α : Type} {t : α → TS} (h : ∀ d, PSs X rest (t d)) : PSs X rest (fun D σ H => ∃ d, t d D σ H) := ⟨fun pins s σ H D I ⟨d, q⟩ => (h d).run pins s σ H D I q⟩
/-- at the end -/
theorem s_nil (h : ∀ r, m = some r → κ.nx env' r) (w : Wk sh env κ.ns env') : PSs X [] (tS (gx tb X) sh env κ m) := pss_nil.imp fun D σ H ⟨F, A, r, s, e, q⟩ => q.nx env' σ F H _ .wk (s.wk w) (h r e)
/-- a slot frozen -/
theorem s_frz {t : OT} (i : Nat) {d : D} (h1 : sh[i]? = some (.ow t)) (h2 : env[i]? = some d) (h : PSs X a (tS (gx tb X) (sh.set i .fr) env κ m)) : PSs X a (tS (gx tb X) sh env κ m) := h.imp fun D σ H ⟨F, A, r, s, e, q⟩ =>
  let ⟨s', y⟩ := s.frz h1 h2
  ⟨_, _, r, s', e, q.step y⟩
/-- slots forgotten -/
theorem s_wk (w : Wk sh env sh' env') (h : PSs X a (tS (gx tb X) sh' env' κ m)) : PSs X a (tS (gx tb X) sh env κ m) := h.imp fun D σ H ⟨F, A, r, s, e, q⟩ => ⟨_, _, r, s.wk w, e, q.step .wk⟩
theorem asg_fr {k : D → Option ρ} {t : TE} {h0 : PS X st (tAsg t (gName i))} (ht : ∀ σ H Q, tE (gx tb X) sh env me σ H Q → t σ H Q) (hi : i < sh.length) (h : ∀ d, PSs X rest (tS (gx tb X) (sh.set i .fr) (env.set i d) κ (k d))) : PSs X (st :: rest) (tS (gx tb X) sh env κ (me.bind k)) :=
  (pss_cons h0 (pss_ex h)).imp fun D σ H ⟨F, A, r, s, e, q⟩ => by
    obtain ⟨d, hd, e⟩ := Option.bind_eq_some_iff.mp e
    exact ht σ H _ ⟨F, A, d, s, hd, fun v F1 H1 w1 p1 => ⟨d, F1, _, r, (s.grow w1).put_fr hi p1, e, q.step ((Evo.of w1).trans (.put fun _ m => nomatch m))⟩⟩
theorem asg_ow {k : D → Option ρ} {t : TE} {T : OT} {h0 : PS X st (tAsg t (gName i))} (ht : ∀ σ H Q, tO (gx tb X) T sh env me σ H Q → t σ H Q) (hi : i < sh.length) (h : ∀ d, PSs X rest (tS (gx tb X) (sh.set i (.ow T)) (env.set i d) κ (k d))) : PSs X (st :: rest) (tS (gx tb X) sh env κ (me.bind k)) :=
  (pss_cons h0 (pss_ex h)).imp fun D σ H ⟨F, A, r, s, e, q⟩ => by
    obtain ⟨d, hd, e⟩ := Option.bind_eq_some_iff.mp e
    refine ht σ H _ ⟨F, A, d, s, hd, fun v F1 H1 Bs w1 o nd n => ⟨d, F1, _, r, (s.grow w1).put hi ⟨v, rfl, o⟩ nd fun a m => ⟨(n a m).1, fun j _ mj => ?_⟩, e, q.step ?_⟩⟩
    · obtain ⟨u, hu, _⟩ := s.there j a mj
      rw [(n a m).2] at hu; cases hu
    · have y : Evo F H A F1 H1 (AFset A i Bs) := ⟨w1.sub, fun a o h _ => w1.keep a o h, fun j a m => by
        by_cases hj : j = i
        · simp only [AFset, if_pos hj] at m; exact .inr (n a m).2
        · simp only [AFset, if_neg hj] at m; exact .inl ⟨j, m⟩, fun a h h' => .inr (w1.new a h h')⟩
      exact y
/-- x = e -/
theorem s_asg {k : D → Option ρ} {px : Pos} (hN : X.N.Nodup) (hx : X.N[i]? = some x) (hl : Loc X.env.scope x) (hi : i < sh.length) (he : PE X e (tE (gx tb X) sh env me)) (h : ∀ d, PSs X rest (tS (gx tb X) (sh.set i .fr) (env.set i d) κ (k d)))
    (hs : swapsWith e (some (.Name x px)) pos.line X.env = pure false := by rfl) (hf : X.fn x = true ∨ X.env.scope.names.lookup x = some .local := by first | exact .inl rfl | exact .inr rfl | assumption) :
    PSs X (.Assign [.Name x px] e pos :: rest) (tS (gx tb X) sh env κ (me.bind k)) := asg_fr (h0 := ps_set hN hx hl he hs hf) (fun _ _ _ q => q) hi h
/-- x = e, new and owned -/
theorem s_own {k : D → Option ρ} {px : Pos} {T : OT} (hN : X.N.Nodup) (hx : X.N[i]? = some x) (hl : Loc X.env.scope x) (hi : i < sh.length) (he : PE X e (tO (gx tb X) T sh env me)) (h : ∀ d, PSs X rest (tS (gx tb X) (sh.set i (.ow T)) (env.set i d) κ (k d)))
    (hs : swapsWith e (some (.Name x px)) pos.line X.env = pure false := by rfl) (hf : X.fn x = true ∨ X.env.scope.names.lookup x = some .local := by first | exact .inl rfl | exact .inr rfl | assumption) :
    PSs X (.Assign [.Name x px] e pos :: rest) (tS (gx tb X) sh env κ (me.bind k)) := asg_ow (h0 := ps_set hN hx hl he hs hf) (fun _ _ _ q => q) hi h
/-- what stands between a statement and the rest -/
def Kont.mid (κ : Kont ρ) (sh : List Sl) (emb : τ → List D) (k : τ → Option ρ) : Kont ρ := { κ with ns := sh, nx := fun env r => ∃ t, env = emb t ∧ k t = some r }
theorem s_seq {emb : τ → List D} {k : τ → Option ρ} (p1 : PS X st (tS (gx tb X) sh env (κ.mid sh' emb k) m)) (h2 : ∀ t, PSs X rest (tS (gx tb X) sh' (emb t) κ (k t))) : PSs X (st :: rest) (tS (gx tb X) sh env κ m) := by
  refine (pss_cons p1 (pss_ex h2)).imp fun D σ H ⟨F, A, r, s, e, q⟩ => ⟨F, A, r, s, e, ⟨fun env' σ' F' H' A' y s' k' => ?_, q.rt, q.bk⟩⟩
  obtain ⟨t, rfl, hk⟩ := k'
  exact ⟨t, F', A', r, s', hk, q.step y⟩
theorem s_one (h : PS X st (tS (gx tb X) sh env κ m)) : PSs X [st] (tS (gx tb X) sh env κ m) := pss_one h
end
end Mir
namespace Mir
open PySem PySem.Spec PyProof.Rows L2
/-- fold, each turn may fail -/
def forS {τ : Type} (xs : List D) (t : τ) (f : τ → D → Option τ) : Option τ := xs.foldlM f t
inductive Ctl (τ ρ : Type) where
  | nx (t : τ) | bk (t : τ) | rt (r : ρ)
/-- a loop that may break or return -/
def forC {τ ρ : Type} (f : τ → D → Option (Ctl τ ρ)) : List D → τ → Option (Ctl τ ρ)
  | [], t => some (.nx t)
  | x :: xs, t => (f t x).bind fun c => match c with
    | .nx t' => forC f xs t'
    | .bk t' => some (.bk t')
    | .rt r => some (.rt r)
/-- what follows a loop -/
def Ctl.go {τ ρ : Type} (k : τ → Option ρ) : Ctl τ ρ → Option ρ
  | .nx t => k t
  | .bk t => k t
  | .rt r => some r
section
variable {X : Cx} {tb : Addr → Prop} {ρ τ : Type} {st : Stmt} {rest a b : List Stmt} {e e1 e2 tg : Expr} {sh sh' shL : List Sl} {env env' : List D} {κ : Kont ρ} {m ma mb : Option ρ} {me : Option D} {c : Option Bool} {pos : Pos} {i : Nat} {x : Str}
/-- if -/
theorem s_if (hc : PT X e (tT (gx tb X) sh env c)) (ha : PSs X a (tS (gx tb X) sh env κ ma)) (hb : PSs X b (tS (gx tb X) sh env κ mb)) : PS X (.If e a b pos) (tS (gx tb X) sh env κ (c.bind fun t => if t = true then ma else mb)) :=
  (ps_if hc ha hb).imp fun D σ H ⟨F, A, r, s, e, q⟩ => by
    obtain ⟨t, ht, e⟩ := Option.bind_eq_some_iff.mp e
    refine ⟨F, A, t, s, ht, fun F1 H1 w1 => ?_⟩
    cases t with
    | true => exact ⟨F1, A, r, s.grow w1, e, q.step (.of w1)⟩
    | false => exact ⟨F1, A, r, s.grow w1, e, q.step (.of w1)⟩
/-- return e -/
theorem s_ret (k : D → Option ρ) (hr : κ.rT = .fr) (hk : ∀ d r, k d = some r → κ.rt d r) (he : PE X e (tE (gx tb X) sh env me)) : PS X (.Return (some e) pos) (tS (gx tb X) sh env κ (me.bind k)) :=
  (ps_ret he).imp fun D σ H ⟨F, A, r, s, e, q⟩ => by
    obtain ⟨d, hd, e⟩ := Option.bind_eq_some_iff.mp e
    exact ⟨F, A, d, s, hd, fun v F1 H1 w1 p => q.rt d v F1 H1 A [] (.of w1) w1.good (by rw [hr]; exact ⟨rfl, p⟩) List.nodup_nil (fun _ m => nomatch m) (hk d r e)⟩
/-- return something new -/
theorem s_retO {T : OT} (k : D → Option ρ) (hr : κ.rT = T) (hk : ∀ d r, k d = some r → κ.rt d r) (he : PE X e (tO (gx tb X) T sh env me)) : PS X (.Return (some e) pos) (tS (gx tb X) sh env κ (me.bind k)) :=
  (ps_ret he).imp fun D σ H ⟨F, A, r, s, e, q⟩ => by
    obtain ⟨d, hd, e⟩ := Option.bind_eq_some_iff.mp e
    exact ⟨F, A, d, s, hd, fun v F1 H1 Bs w1 o nd n => q.rt d v F1 H1 A Bs (.of w1) w1.good (by rw [hr]; exact o) nd (fun a m => ⟨(n a m).1, .inr (n a m).2⟩) (hk d r e)⟩
/-- break -/
theorem s_brk (h : ∀ r, m = some r → κ.bk env' r) (w : Wk sh env κ.bs env') : PS X (.Break pos) (tS (gx tb X) sh env κ m) := ps_break.imp fun D σ H ⟨F, A, r, s, e, q⟩ => q.bk env' σ F H _ .wk (s.wk w) (h r e)
theorem s_pass (h : PSs X rest (tS (gx tb X) sh env κ m)) : PSs X (.Pass pos :: rest) (tS (gx tb X) sh env κ m) := pss_cons ps_pass h
/-! ### what a loop walks -/
structure IterOk (g : Gx) (J : It) (F0 : Hp) (xs : List D) : Prop where
  go : ∀ i F H, Sub F0 F → Good F H → i < xs.length → J.go i H
  stop : ∀ i F H, Sub F0 F → Good F H → xs.length ≤ i → J.stop i H
  yld : ∀ i v F H H', Sub F0 F → Good F H → i < xs.length → J.yld i H v H' → ∃ d F', xs[i]? = some d ∧ Grow F H F' H' ∧ Rep g F' v d
def tI (g : Gx) (sh : List Sl) (env : List D) (m : Option (List D)) : TI := fun σ H R => ∃ F A xs, St0 g sh env σ F H A ∧ m = some xs ∧ ∀ J F' H', Grow F H F' H' → IterOk g J F' xs → R J H'
theorem _root_.L2.PI.imp {X : Cx} {tg e : Expr} {t t' : TI} (h : PI X tg e t) (k : ∀ σ H R, t' σ H R → t σ H R) : PI X tg e t' := ⟨fun pins s σ H R I q => h.run pins s σ H R I (k σ H R q)⟩
theorem it_list {F : Hp} {p : Addr} {vs : List V} {xs : List D} (h : F p = some (.lst vs)) (r : RepL (gx tb X) F vs xs) : IterOk (gx tb X) (Itl X.K p) F xs where
  go := fun i F' H s gd hi => ⟨vs, vs[i]'(by rw [r.length]; exact hi), .inl (.inl (gd.sub _ _ (s _ _ h))), List.getElem?_eq_getElem _⟩
  stop := fun i F' H s gd hi => ⟨vs, .inl (.inl (gd.sub _ _ (s _ _ h))), by rw [r.length]; exact hi⟩
  yld := fun i v F' H H' s gd hi y => by
    obtain ⟨rfl, y⟩ := y
    obtain ⟨d, h1, h2⟩ := r.get (y vs (.inl (.inl (gd.sub _ _ (s _ _ h)))))
    exact ⟨d, F', h1, .refl gd, h2.mono s⟩
theorem it_tup {F : Hp} {p : Addr} {vs : List V} {xs : List D} (h : SqT X.K F p vs) (r : RepL (gx tb X) F vs xs) : IterOk (gx tb X) (Itt X.K p) F xs where
  go := fun i F' H s gd hi => ⟨vs, vs[i]'(by rw [r.length]; exact hi), sub_t gd.sub (sub_t s h), List.getElem?_eq_getElem _⟩
  stop := fun i F' H s gd hi => ⟨vs, sub_t gd.sub (sub_t s h), by rw [r.length]; exact hi⟩
  yld := fun i v F' H H' s gd hi y => by
    obtain ⟨rfl, y⟩ := y
    obtain ⟨d, h1, h2⟩ := r.get (y vs (sub_t gd.sub (sub_t s h)))
    exact ⟨d, F', h1, .refl gd, h2.mono s⟩
def rngI (lo : Int) (n : Nat) : List D := (List.range n).map fun (j : Nat) => .int (lo + (j : Int))
theorem rngI_at {lo : Int} {n i : Nat} (h : i < n) : (rngI lo n)[i]? = some (.int (lo + i)) := by
  unfold rngI
  rw [List.getElem?_map, List.getElem?_range h]; rfl
theorem rngI_len (lo : Int) (n : Nat) : (rngI lo n).length = n := by simp [rngI]
theorem it_rng {g : Gx} {F : Hp} (lo : Int) (n : Nat) : IterOk g (Itr lo n) F (rngI lo n) where
  go := fun i F' H s gd hi => by rw [rngI_len] at hi; exact hi
  stop := fun i F' H s gd hi => by rw [rngI_len] at hi; exact hi
  yld := fun i v F' H H' s gd hi y => by
    obtain ⟨rfl, rfl⟩ := y
    rw [rngI_len] at hi
    exact ⟨_, F', rngI_at hi, .refl gd, .int _⟩
/-- range(n), range(a, b) -/
def pRng1 : D → Option (List D)
  | .int n => if -(2 ^ 62) ≤ n ∧ n < 2 ^ 62 then some (rngI 0 n.toNat) else none
  | _ => none
def pRng2 : D → D → Option (List D)
  | .int a, .int b => if -(2 ^ 62) ≤ a ∧ a < 2 ^ 62 ∧ -(2 ^ 62) ≤ b ∧ b < 2 ^ 62 then some (rngI a (b - a).toNat) else none
  | _, _ => none
variable {p : Pos} {m1 m2 : Option D}
theorem i_rng1 (hg : Gl X "range") (hm : X.mg "range" = none) (h : PE X e (tE (gx tb X) sh env me)) (he : starEach [e] X.env = (false, eval e X.env) :: starEach [] X.env := by rfl) (hs : starEach [e] X.env = [(false, eval e X.env)] := by rfl) : PI X tg (.Call (.Name "range" p) [e] [] pos) (tI (gx tb X) sh env (me.bind pRng1)) :=
  (pi_range1 hg hm (a_cons (st_rep _) h a_nil he) hs).imp fun σ H R ⟨F, A, xs, s, e, q⟩ => by
    obtain ⟨d, hd, e⟩ := Option.bind_eq_some_iff.mp e
    refine ⟨F, A, [d], s, by rw [hd]; rfl, fun vs F1 H1 w1 r => ?_⟩
    obtain ⟨v, rfl⟩ : ∃ x, vs = [x] := List.length_eq_one_iff.mp (by have := r.1; simpa using this)
    have r0 := r.2.2 0 v d _ rfl rfl rfl
    unfold pRng1 at e
    split at e
    · split at e
      · rename_i hn
        cases e; cases r0
        exact ⟨_, rfl, hn.1, hn.2, q _ F1 H1 w1 (it_rng 0 _)⟩
      · cases e
    · cases e
theorem i_rng2 (hg : Gl X "range") (hm : X.mg "range" = none) (h1 : PE X e1 (tE (gx tb X) sh env m1)) (h2 : PE X e2 (tE (gx tb X) sh env m2)) (he : starEach [e1, e2] X.env = (false, eval e1 X.env) :: starEach [e2] X.env := by rfl) (he2 : starEach [e2] X.env = (false, eval e2 X.env) :: starEach [] X.env := by rfl)
    (hs : starEach [e1, e2] X.env = [(false, eval e1 X.env), (false, eval e2 X.env)] := by rfl) (hs2 : starEach [e2] X.env = [(false, eval e2 X.env)] := by rfl) : PI X tg (.Call (.Name "range" p) [e1, e2] [] pos) (tI (gx tb X) sh env (m1.bind fun a => m2.bind fun b => pRng2 a b)) :=
  (pi_range2 hg hm (a_cons (st_rep _) h1 (a_cons (st_rep _) h2 a_nil he2) he) hs hs2).imp fun σ H R ⟨F, A, xs, s, e, q⟩ => by
    obtain ⟨d, hd, e⟩ := Option.bind_eq_some_iff.mp e
    obtain ⟨d2, hd2, e⟩ := Option.bind_eq_some_iff.mp e
    refine ⟨F, A, [d, d2], s, by rw [hd, hd2]; rfl, fun vs F1 H1 w1 r => ?_⟩
    obtain ⟨v, v2, rfl⟩ : ∃ x y, vs = [x, y] := len2 (by have := r.1; simpa using this)
    have r0 := r.2.2 0 v d _ rfl rfl rfl
    have r1 := r.2.2 1 v2 d2 _ rfl rfl rfl
    unfold pRng2 at e
    split at e
    · split at e
      · rename_i hn
        cases e; cases r0; cases r1
        exact ⟨_, _, rfl, hn, q _ F1 H1 w1 (it_rng _ _)⟩
      · cases e
    · cases e
/-- a list or a tuple -/
def pItems : D → Option (List D)
  | .list ds => some ds
  | .tuple ds => some ds
  | _ => none
theorem i_seq (h : PE X e (tE (gx tb X) sh env me)) : PI X tg e (tI (gx tb X) sh env (me.bind pItems)) := by
  refine ⟨fun pins s σ H R I ⟨F, A, xs, s0, e, q⟩ => ?_⟩
  obtain ⟨d, hd, e⟩ := Option.bind_eq_some_iff.mp e
  refine thn (h.run pins s σ H (fun v H1 => ∃ F1, Grow F H F1 H1 ∧ Rep (gx tb X) F1 v d) I ⟨F, A, d, s0, hd, fun v F1 H1 w1 r => ⟨F1, w1, r⟩⟩) fun v s1 ⟨y, H1, I1, r1, F1, w1, rp⟩ => ?_
  have new : ∀ (h' : Heap), (∀ b o, s1.heap.get? b = some o → h'.get? b = some o) → h'.objs.size = s1.heap.objs.size + 1 → Inv X pins σ H1 { s1 with heap := h' } ∧ ∀ b ∈ [s1.heap.objs.size], FpOk X pins H1 b := fun h' k _ => by
    refine ⟨I1.kept (t' := s1.toks) k, fun b hb => ?_⟩
    obtain rfl : b = s1.heap.objs.size := by simpa using hb
    exact I1.fpOk (Nat.le_refl _) (I1.hok.fresh (Nat.le_refl _))
  unfold pItems at e
  split at e
  · cases e
    cases rp with | @lst p vs _ h1 h2 =>
    cases r1
    have sq : SqL X.K H1 p vs := .inl (.inl (w1.good.sub _ _ h1))
    obtain ⟨its, rv, pl, hz⟩ := I1.list sq
    refine wpAny_pyIter_list pl.isList ?_
    obtain ⟨I2, fp⟩ := new _ (fun b o e => Heap.get?_push_of_some _ e) (Heap.size_push ..)
    exact ⟨_, [s1.heap.objs.size], _, _, H1, rfl, I2, turn_list p _, ⟨_, Heap.get?_push_size _ rfl, rfl, rfl⟩, fp, q _ F1 H1 w1 (it_list h1 h2)⟩
  · cases e
    cases rp with | @tup p vs _ h1 h2 =>
    cases r1
    have sq : SqT X.K H1 p vs := sub_t w1.good.sub h1
    obtain ⟨its, rv, pl, hz⟩ := I1.tuple sq
    refine wpAny_pyIter_tuple (show s1.heap.IsTuple p its.toArray from pl) ?_
    obtain ⟨I2, fp⟩ := new _ (fun b o e => Heap.get?_push_of_some _ e) (Heap.size_push ..)
    exact ⟨_, [s1.heap.objs.size], _, _, H1, rfl, I2, turn_tuple p _, ⟨_, Heap.get?_push_size _ rfl, rfl, rfl⟩, fp, q _ F1 H1 w1 (it_tup h1 h2)⟩
  · cases e
/-! ### targets -/
/-- the slots are the same but for those of G -/
def Agr (G : List Nat) (σ σ' : L2.St) : Prop := σ'.length = σ.length ∧ ∀ j, j ∉ G → σ'[j]? = σ[j]?
/-- a target takes a frozen thing: what it makes of it, the slots and values behind it; only slots of G change -/
def tG {δ : Type} (g : Gx) (G : List Nat) (sh : List Sl) (env : List PyData) (sh' : List Sl) (m : PyData → Option δ) (eg : δ → List PyData) : TG := fun v σ H Q => ∃ F A d z, St0 g sh env σ F H A ∧ Rep g F v d ∧ m d = some z ∧
  ∀ σ' A', Agr G σ σ' → Evo F H A F H A' → St0 g sh' (eg z) σ' F H A' → Q σ' H
def tGs {δ : Type} (g : Gx) (G : List Nat) (sh : List Sl) (env : List PyData) (sh' : List Sl) (m : List PyData → Option δ) (eg : δ → List PyData) : TGs := fun vs σ H Q => ∃ F A ds z, St0 g sh env σ F H A ∧ RepL g F vs ds ∧ m ds = some z ∧
  ∀ σ' A', Agr G σ σ' → Evo F H A F H A' → St0 g sh' (eg z) σ' F H A' → Q σ' H
theorem _root_.L2.PG.imp {X : Cx} {e : Expr} {t t' : TG} (h : PG X e t) (k : ∀ v σ H Q, t' v σ H Q → t v σ H Q) : PG X e t' := ⟨fun pins s σ H v u Q I r q => h.run pins s σ H v u Q I r (k v σ H Q q)⟩
theorem _root_.L2.PGs.imp {X : Cx} {e : List Expr} {t t' : TGs} (h : PGs X e t) (k : ∀ v σ H Q, t' v σ H Q → t v σ H Q) : PGs X e t' := ⟨fun pins s σ H v u Q I r q => h.run pins s σ H v u Q I r (k v σ H Q q)⟩
theorem g_name {px : Pos} (hN : X.N.Nodup) (hx : X.N[i]? = some x) (hl : Loc X.env.scope x) (hi : i < sh.length) (hf : X.fn x = true ∨ X.env.scope.names.lookup x = some .local := by first | exact .inl rfl | exact .inr rfl | assumption) : PG X (.Name x px) (tG (gx tb X) [i] sh env (sh.set i .fr) some (fun d => env.set i d)) :=
  (pg_name hN hx hl hf).imp fun v σ H Q ⟨F, A, d, z, s, r, e, q⟩ => by
    cases e
    exact q _ _ ⟨by simp, fun j hj => List.getElem?_set_ne (fun z => hj (by simp [z]))⟩ (Evo.put (Bs := []) fun _ m => nomatch m) (s.put_fr hi r)
def uNil : List PyData → Option Unit
  | [] => some ()
  | _ => none
def uCons {α β : Type} (m1 : PyData → Option α) (m2 : List PyData → Option β) : List PyData → Option (α × β)
  | d :: ds => (m1 d).bind fun a => (m2 ds).bind fun b => some (a, b)
  | [] => none
def uTup {α : Type} (m : List PyData → Option α) : PyData → Option α
  | .tuple ds => m ds
  | _ => none
theorem gs_nil : PGs X [] (tGs (gx tb X) [] sh env sh uNil (fun _ => env)) := pgs_nil.imp fun vs σ H Q ⟨F, A, ds, z, s, r, e, q⟩ => by
  cases r with
  | nil => exact ⟨rfl, q σ A ⟨rfl, fun _ _ => rfl⟩ (.refl _ _ _) s⟩
  | cons _ _ => cases e
theorem gs_cons {α β : Type} {es : List Expr} {G1 G2 : List Nat} {sh1 sh2 : List Sl} {m1 : PyData → Option α} {m2 : List PyData → Option β} {g1 : α → List PyData} {g2 : α → β → List PyData} (h1 : PG X e (tG (gx tb X) G1 sh env sh1 m1 g1)) (h2 : ∀ a, PGs X es (tGs (gx tb X) G2 sh1 (g1 a) sh2 m2 (g2 a)))
    (hs : (assignEach (e :: es) X.env).map (·.2) = assign e X.env :: (assignEach es X.env).map (·.2) := by rfl) : PGs X (e :: es) (tGs (gx tb X) (G1 ++ G2) sh env sh2 (uCons m1 m2) (fun z => g2 z.1 z.2)) := by
  have h2' : PGs X es (fun vs σ H Q => ∃ a, tGs (gx tb X) G2 sh1 (g1 a) sh2 m2 (g2 a) vs σ H Q) := ⟨fun pins s σ H vs us Q I r ⟨a, q⟩ => (h2 a).run pins s σ H vs us Q I r q⟩
  refine (pgs_cons h1 h2' hs).imp fun vs σ H Q ⟨F, A, ds, z, s, r, e, q⟩ => ?_
  cases r with
  | nil => cases e
  | @cons v vs d ds r1 r2 =>
    obtain ⟨a, ha, e⟩ := Option.bind_eq_some_iff.mp e
    obtain ⟨b, hb, e⟩ := Option.bind_eq_some_iff.mp e
    cases e
    refine ⟨v, vs, rfl, F, A, d, a, s, r1, ha, fun σ1 A1 n1 y1 s1 => ⟨a, F, A1, ds, b, s1, r2, hb, fun σ2 A2 n2 y2 s2 => q σ2 A2 ⟨n2.1.trans n1.1, fun j hj => ?_⟩ (y1.trans y2) s2⟩⟩
    rw [List.mem_append, not_or] at hj
    rw [n2.2 j hj.2, n1.2 j hj.1]
theorem g_tup {α : Type} {es : List Expr} {n k : Nat} {G : List Nat} {m : List PyData → Option α} {eg : α → List PyData} (hc : X.calm = true) (h : PGs X es (tGs (gx tb X) G sh env sh' m eg)) (hm : ∀ ds z, m ds = some z → ds.length = n)
    (hn : (assignEach es X.env).length = n := by rfl) (hst : (assignEach es X.env).findIdx? (·.1) = none := by rfl) : PG X (.Tuple es k pos) (tG (gx tb X) G sh env sh' (uTup m) eg) :=
  (pg_tup hc h hn hst).imp fun v σ H Q ⟨F, A, d, z, s, r, e, q⟩ => by
    cases d with
    | tuple ds =>
      cases r with
      | @tup p vs _ h1 r1 =>
        exact ⟨p, vs, rfl, sub_t s.good.sub h1, by rw [r1.length]; exact hm ds z e, F, A, ds, z, s, r1, e, q⟩
    | _ => cases e
/-! ### for -/
/-- the wishes of a loop's body -/
def Kont.body (κ : Kont ρ) (shL : List Sl) (emb : τ → List D) : Kont (Ctl τ ρ) where
  ns := shL
  nx := fun env c => ∃ t, env = emb t ∧ c = .nx t
  rT := κ.rT
  rt := fun d c => ∃ r, κ.rt d r ∧ c = .rt r
  bs := shL
  bk := fun env c => ∃ t, env = emb t ∧ c = .bk t
theorem s_forC {emb : τ → List D} {t0 : τ} {body : List Stmt} {δ : Type} {G : List Nat} {mi : Option (List D)} {mg : D → Option δ} {eg : τ → δ → List D} {shb : List Sl} {fb : τ → δ → Option (Ctl τ ρ)} {k : τ → Option ρ}
    (hp : PassesOwn (model X.prog X.w) X.A X.env X.xe) (hc : X.calm = true) (w : Wk sh env shL (emb t0)) (hn : κ.ns = shL) (hk : ∀ t r, k t = some r → κ.nx (emb t) r)
    (hi : PI X tg e (tI (gx tb X) shL (emb t0) mi)) (hg : ∀ t, PG X tg (tG (gx tb X) G shL (emb t) shb mg (eg t)))
    (hb : ∀ t z, PSs X a (tS (gx tb X) shb (eg t z) (κ.body shL emb) (fb t z)))
    (hs : ∀ y, foldedSetIterable e X.env y = pure y := by intro _; rfl) :
    PS X (.For tg e a [] pos) (tS (gx tb X) sh env κ (mi.bind fun xs => (forC (fun t d => (mg d).bind (fb t)) xs t0).bind (Ctl.go k))) := by
  have hb' : PSs X a (fun D σ H => ∃ (z : τ × δ), tS (gx tb X) shb (eg z.1 z.2) (κ.body shL emb) (fb z.1 z.2) D σ H) := pss_ex fun z => hb z.1 z.2
  generalize hf : (fun (t : τ) (d : PyData) => (mg d).bind (fb t)) = f
  have hg' : PG X tg (fun v σ H Q => ∃ t, tG (gx tb X) G shL (emb t) shb mg (eg t) v σ H Q) := ⟨fun pins s σ H v u Q I r ⟨t, q⟩ => (hg t).run pins s σ H v u Q I r q⟩
  refine (ps_for hp hc hi hg' hb' hs).imp fun D σ H ⟨F, A, r, s, e, q⟩ => ?_
  obtain ⟨xs, hxs, e⟩ := Option.bind_eq_some_iff.mp e
  obtain ⟨c, hcc, e⟩ := Option.bind_eq_some_iff.mp e
  refine ⟨F, _, xs, s.wk w, hxs, fun J F1 H1 w1 J1 => ?_⟩
  have q1 := q.step (Evo.wk (sh' := shL) |>.trans (.of w1))
  have s1 := (s.wk w).grow w1
  refine ⟨fun i n σ' H' => n = xs.length - i ∧ i ≤ xs.length ∧ ∃ t F' A', Sub F1 F' ∧ EndsOk (gx tb X) κ D F' H' A' r ∧ St0 (gx tb X) shL (emb t) σ' F' H' A' ∧ forC f (xs.drop i) t = some c, ⟨_, rfl, Nat.zero_le _, t0, F1, _, .refl _, q1, s1, by simpa using hcc⟩, ?_⟩
  rintro i n σ' H' ⟨rfl, hi, t, F', A', sb, q', s', hf'⟩
  by_cases hlt : i < xs.length
  · refine .inr ⟨J1.go i F' H' sb s'.good hlt, fun σ2 H2 => i + 1 ≤ xs.length ∧ ∃ t F2 A2, Sub F1 F2 ∧ EndsOk (gx tb X) κ D F2 H2 A2 r ∧ St0 (gx tb X) shL (emb t) σ2 F2 H2 A2 ∧ forC f (xs.drop (i + 1)) t = some c, fun σ2 H2 h => ⟨xs.length - (i + 1), by omega, rfl, h⟩, fun v H2 y => ?_⟩
    obtain ⟨d, F2, hd, w2, r2⟩ := J1.yld i v F' H' H2 sb s'.good hlt y
    have e0 : xs.drop i = d :: xs.drop (i + 1) := by
      rw [List.drop_eq_getElem_cons hlt]
      congr 1
      rw [List.getElem?_eq_getElem hlt] at hd
      exact Option.some.inj hd
    rw [e0] at hf'
    unfold forC at hf'
    obtain ⟨c1, h1, hf'⟩ := Option.bind_eq_some_iff.mp hf'
    rw [← hf] at h1
    obtain ⟨z2, h2, h1⟩ := Option.bind_eq_some_iff.mp h1
    refine ⟨t, F2, A', d, z2, s'.grow w2, r2, h2, fun σ3 A3 _ y3 s3 => ⟨(t, z2), F2, A3, c1, s3, h1, ?_⟩⟩
    have q3 : EndsOk (gx tb X) κ D F2 H2 A3 r := q'.step ((Evo.of w2).trans y3)
    have sb2 : Sub F1 F2 := sb.trans w2.sub
    refine ⟨fun env4 σ4 F4 H4 A4 y4 s4 k4 => ?_, fun d4 v4 F4 H4 A4 Bs y4 gd o nd nn k4 => ?_, fun env4 σ4 F4 H4 A4 y4 s4 k4 => ?_⟩
    · obtain ⟨t4, rfl, rfl⟩ := k4
      exact ⟨hlt, t4, F4, A4, sb2.trans y4.sub, q3.step y4, s4, hf'⟩
    · obtain ⟨r4, k4, rfl⟩ := k4
      cases hf'; cases e
      exact q3.rt d4 v4 F4 H4 A4 Bs y4 gd o nd nn k4
    · obtain ⟨t4, rfl, rfl⟩ := k4
      cases hf'
      exact q3.nx _ σ4 F4 H4 A4 y4 (by rw [hn]; exact s4) (hk _ _ e)
  · have e0 : i = xs.length := by omega
    subst e0
    rw [List.drop_length] at hf'
    cases hf'
    exact .inl ⟨J1.stop _ F' H' sb s'.good (Nat.le_refl _), q'.nx _ σ' F' H' A' (.refl _ _ _) (by rw [hn]; exact s') (hk _ _ e)⟩
/-! ### while -/
def whileN (c : τ → Option Bool) (f : τ → Option (Ctl τ ρ)) : Nat → τ → Option (Ctl τ ρ)
  | 0, _ => none
  | n + 1, t => (c t).bind fun b => if b = true then (f t).bind fun x => match x with
    | .nx t' => whileN c f n t'
    | x => some x
    else some (.nx t)
open Classical in
noncomputable def whileC (c : τ → Option Bool) (f : τ → Option (Ctl τ ρ)) (t : τ) : Option (Ctl τ ρ) := if h : ∃ n, (whileN c f n t).isSome = true then whileN c f (Classical.choose h) t else none
theorem whileN_more (c : τ → Option Bool) (f : τ → Option (Ctl τ ρ)) : ∀ (n : Nat) (t : τ) (r : Ctl τ ρ), whileN c f n t = some r → ∀ m, n ≤ m → whileN c f m t = some r
  | 0, t, r, h, _, _ => by cases h
  | n + 1, t, r, h, 0, hm => by omega
  | n + 1, t, r, h, m + 1, hm => by
    unfold whileN at h ⊢
    obtain ⟨b, hb, h⟩ := Option.bind_eq_some_iff.mp h
    rw [hb]
    cases b with
    | false => exact h
    | true =>
      rw [if_pos rfl] at h
      obtain ⟨x, hx, h⟩ := Option.bind_eq_some_iff.mp h
      simp only [Option.bind_some, if_pos, hx]
      cases x with
      | nx t' => exact whileN_more c f n t' r h m (by omega)
      | bk _ => exact h
      | rt _ => exact h
theorem whileC_iff {c : τ → Option Bool} {f : τ → Option (Ctl τ ρ)} {t : τ} {r : Ctl τ ρ} : whileC c f t = some r ↔ ∃ n, whileN c f n t = some r := by
  unfold whileC
  constructor
  · intro h
    split at h
    · exact ⟨_, h⟩
    · cases h
  · rintro ⟨n, h⟩
    have hx : ∃ n, (whileN c f n t).isSome = true := ⟨n, by rw [h]; rfl⟩
    rw [dif_pos hx]
    obtain ⟨r', h'⟩ := Option.isSome_iff_exists.mp (Classical.choose_spec hx)
    rw [h']
    have a1 := whileN_more c f _ t r h (max n (Classical.choose hx)) (by omega)
    have a2 := whileN_more c f _ t r' h' (max n (Classical.choose hx)) (by omega)
    rw [← a1, ← a2]
theorem whileC_eq (c : τ → Option Bool) (f : τ → Option (Ctl τ ρ)) (t : τ) : whileC c f t = (c t).bind fun b => if b = true then (f t).bind fun x => match x with
    | .nx t' => whileC c f t'
    | x => some x
    else some (.nx t) := by
  apply Option.ext
  intro r
  rw [whileC_iff]
  constructor
  · rintro ⟨n, h⟩
    cases n with
    | zero => cases h
    | succ n =>
      unfold whileN at h
      obtain ⟨b, hb, h⟩ := Option.bind_eq_some_iff.mp h
      rw [hb]
      cases b with
      | false => exact h
      | true =>
        rw [if_pos rfl] at h
        obtain ⟨x, hx, h⟩ := Option.bind_eq_some_iff.mp h
        simp only [Option.bind_some, if_pos, hx]
        cases x with
        | nx t' => exact whileC_iff.mpr ⟨n, h⟩
        | bk _ => exact h
        | rt _ => exact h
  · intro h
    obtain ⟨b, hb, h⟩ := Option.bind_eq_some_iff.mp h
    cases b with
    | false => exact ⟨1, by unfold whileN; rw [hb]; exact h⟩
    | true =>
      rw [if_pos rfl] at h
      obtain ⟨x, hx, h⟩ := Option.bind_eq_some_iff.mp h
      cases x with
      | nx t' =>
        obtain ⟨n, hn⟩ := whileC_iff.mp h
        refine ⟨n + 1, ?_⟩
        unfold whileN; rw [hb]; simp only [Option.bind_some, if_pos, hx]; exact hn
      | bk _ => exact ⟨1, by unfold whileN; rw [hb]; simp only [Option.bind_some, if_pos, hx]; exact h⟩
      | rt _ => exact ⟨1, by unfold whileN; rw [hb]; simp only [Option.bind_some, if_pos, hx]; exact h⟩
theorem s_whileC {emb : τ → List D} {t0 : τ} {mc : τ → Option Bool} {f : τ → Option (Ctl τ ρ)} {k : τ → Option ρ} (hp : PassesOwn (model X.prog X.w) X.A X.env X.xe) (w : Wk sh env shL (emb t0)) (hn : κ.ns = shL) (hk : ∀ t r, k t = some r → κ.nx (emb t) r)
    (hc : ∀ t, PT X e (tT (gx tb X) shL (emb t) (mc t))) (hb : ∀ t, PSs X a (tS (gx tb X) shL (emb t) (κ.body shL emb) (f t))) : PS X (.While e a [] pos) (tS (gx tb X) sh env κ ((whileC mc f t0).bind (Ctl.go k))) := by
  have hb' : PSs X a (fun D σ H => ∃ t, tS (gx tb X) shL (emb t) (κ.body shL emb) (f t) D σ H) := pss_ex hb
  have hc' : PT X e (fun σ H Q => ∃ t, tT (gx tb X) shL (emb t) (mc t) σ H Q) := ⟨fun pins s σ H Q I ⟨t, q⟩ => (hc t).run pins s σ H Q I q⟩
  refine (ps_while hp hc' hb').imp fun D σ H ⟨F, A, r, s, e, q⟩ => ?_
  obtain ⟨cc, hcc, e⟩ := Option.bind_eq_some_iff.mp e
  obtain ⟨n0, hn0⟩ := whileC_iff.mp hcc
  refine ⟨fun n σ' H' => ∃ t F' A', EndsOk (gx tb X) κ D F' H' A' r ∧ St0 (gx tb X) shL (emb t) σ' F' H' A' ∧ whileN mc f n t = some cc, ⟨n0, t0, F, _, q.step .wk, s.wk w, hn0⟩, ?_⟩
  rintro n σ' H' ⟨t, F', A', q', s', hw⟩
  cases n with
  | zero => cases hw
  | succ n =>
    unfold whileN at hw
    obtain ⟨b, hb1, hw⟩ := Option.bind_eq_some_iff.mp hw
    refine ⟨t, F', A', b, s', hb1, fun F1 H1 w1 => ?_⟩
    have q1 := q'.step (Evo.of w1)
    have s1 := s'.grow w1
    cases b with
    | false =>
      cases hw
      exact q1.nx _ σ' F1 H1 A' (.refl _ _ _) (by rw [hn]; exact s1) (hk _ _ e)
    | true =>
      rw [if_pos rfl] at hw
      obtain ⟨x, hx, hw⟩ := Option.bind_eq_some_iff.mp hw
      refine ⟨fun σ2 H2 => ∃ t F2 A2, EndsOk (gx tb X) κ D F2 H2 A2 r ∧ St0 (gx tb X) shL (emb t) σ2 F2 H2 A2 ∧ whileN mc f n t = some cc, fun σ2 H2 h => ⟨n, by omega, h⟩, t, F1, A', x, s1, hx, ?_⟩
      refine ⟨fun env4 σ4 F4 H4 A4 y4 s4 k4 => ?_, fun d4 v4 F4 H4 A4 Bs y4 gd o nd nn k4 => ?_, fun env4 σ4 F4 H4 A4 y4 s4 k4 => ?_⟩
      · obtain ⟨t4, rfl, rfl⟩ := k4
        exact ⟨t4, F4, A4, q1.step y4, s4, hw⟩
      · obtain ⟨r4, k4, rfl⟩ := k4
        cases hw; cases e
        exact q1.rt d4 v4 F4 H4 A4 Bs y4 gd o nd nn k4
      · obtain ⟨t4, rfl, rfl⟩ := k4
        cases hw
        exact q1.nx _ σ4 F4 H4 A4 y4 (by rw [hn]; exact s4) (hk _ _ e)
end
end Mir
namespace Mir
open PySem PySem.Spec PyProof.Rows L2
section
variable {X : Cx} {tb : Addr → Prop} {ρ τ δ : Type} {st : Stmt} {rest a b : List Stmt} {e e1 e2 tg : Expr} {sh sh' shL : List Sl} {env env' : List PyData} {κ : Kont ρ} {m ma mb : Option ρ} {me m1 m2 : Option PyData} {c : Option Bool} {pos apos pos' : Pos} {i : Nat} {x : Str} {di : PyData}
/-- a, b = e -/
theorem s_asgT {G : List Nat} {mg : PyData → Option δ} {eg : δ → List PyData} {k : δ → Option ρ} (he : PE X e (tE (gx tb X) sh env me)) (hg : PG X tg (tG (gx tb X) G sh env sh' mg eg)) (h : ∀ z, PSs X rest (tS (gx tb X) sh' (eg z) κ (k z)))
    (hs : swapsWithSole [tg] e pos.line X.env = pure false := by rfl) (hw : swappedStores [tg] e X.env = pure none := by rfl) (h1 : (assignEach [tg] X.env).map (·.2) = [assign tg X.env] := by rfl) :
    PSs X (.Assign [tg] e pos :: rest) (tS (gx tb X) sh env κ (me.bind fun d => (mg d).bind k)) := (pss_cons (ps_asg he hg hs hw h1) (pss_ex h)).imp fun Dn σ H ⟨F, A, r, s, e, q⟩ => by
  obtain ⟨d, hd, e⟩ := Option.bind_eq_some_iff.mp e
  obtain ⟨z, hz, e⟩ := Option.bind_eq_some_iff.mp e
  exact ⟨F, A, d, s, hd, fun v F1 H1 w1 p1 => ⟨F1, A, d, z, s.grow w1, p1, hz, fun σ' A' _ y s' => ⟨z, F1, A', r, s', e, q.step ((Evo.of w1).trans y)⟩⟩⟩
/-- a statement of an expression for its effect alone (nothing) -/
theorem s_expr {P : Pr} {k : Option ρ} (he : PE X e (tP (gx tb X) P sh env me)) (h : PSs X rest (tS (gx tb X) sh env κ k)) (hs : swapsWith e none pos.line X.env = pure false := by rfl) : PSs X (.Expr e pos :: rest) (tS (gx tb X) sh env κ (me.bind fun _ => k)) :=
  (pss_cons (ps_expr he hs) h).imp fun Dn σ H ⟨F, A, r, s, e, q⟩ => by
    obtain ⟨d, hd, e⟩ := Option.bind_eq_some_iff.mp e
    exact ⟨F, A, d, s, hd, fun v F1 H1 w1 p1 => ⟨F1, A, r, s.grow w1, e, q.step (.of w1)⟩⟩
/-! ### lists changed -/
def pApp : PyData → PyData → Option PyData
  | .list ds, d => if ds.length < 16777216 then some (.list (ds ++ [d])) else none
  | _, _ => none
def pExt : PyData → PyData → Option PyData
  | .list a, .list b => if a.length + b.length ≤ 16777216 then some (.list (a ++ b)) else none
  | _, _ => none
theorem own_list {g : Gx} {σ : L2.St} {F H : Hp} {A : AF} {ds : List PyData} (s : St0 g sh env σ F H A) (h1 : sh[i]? = some (.ow .any)) (h2 : env[i]? = some (.list ds)) : ∃ l vs, σ[i]? = some (some (.ref l)) ∧ H l = some (.lst vs) ∧ RepL g F vs ds ∧ A i = [l] := by
  obtain ⟨x, hx, v, rfl, hA, l, vs, rfl, h3, h4⟩ := s.get h1 h2
  exact ⟨l, vs, hx, h3, h4, hA⟩
/-- xs.append(e) -/
theorem s_app {k : PyData → Option ρ} {ce : Expr} (h1 : sh[i]? = some (.ow .any)) (h2 : env[i]? = some di) (hm : PE X ce (tBM X.K "list" rAppend (tVar i) (tCons (tE (gx tb X) sh env me) tNil))) (h : ∀ d, PSs X rest (tS (gx tb X) sh (env.set i d) κ (k d))) (hs : swapsWith ce none pos'.line X.env = pure false := by rfl) :
    PSs X (.Expr ce pos' :: rest) (tS (gx tb X) sh env κ (me.bind fun d => (pApp di d).bind k)) := by
  refine (pss_cons (ps_expr hm hs) (pss_ex h)).imp fun Dn σ H ⟨F, A, r, s, e, q⟩ => ?_
  obtain ⟨d, hd, e⟩ := Option.bind_eq_some_iff.mp e
  obtain ⟨d', hd', e⟩ := Option.bind_eq_some_iff.mp e
  cases di with
  | list ds =>
    unfold pApp at hd'
    simp only at hd'
    split at hd'
    · rename_i hlt
      cases hd'
      obtain ⟨l, vs, hσ, hH, rl, hA⟩ := own_list s h1 h2
      refine ⟨.ref l, hσ, .inl ⟨rfl, vs, .inl (.inl hH)⟩, F, A, d, s, hd, fun v F1 H1 w1 p1 => ?_⟩
      have s1 := s.grow w1
      have hH1 : H1 l = some (.lst vs) := w1.keep.of hH (fun _ z => nomatch z)
      obtain ⟨s2, y2⟩ := s1.rewrite (o := .lst (vs ++ [v])) (d' := .list (ds ++ [d])) h1 h2 hσ hA (fun _ z => nomatch z) rfl ⟨l, _, rfl, upd_same, (rl.mono w1.sub).append (.cons p1 .nil)⟩
      exact ⟨l, vs, v, rfl, rfl, hH1, by rw [lim_eq, rl.length]; exact hlt, .list (ds ++ [d]), F1, A, r, s2, e, q.step ((Evo.of w1).trans y2)⟩
    · cases hd'
  | _ => cases hd'
/-- xs.extend(ys) -/
theorem s_ext {k : PyData → Option ρ} {ce : Expr} (h1 : sh[i]? = some (.ow .any)) (h2 : env[i]? = some di) (hm : PE X ce (tBM X.K "list" rExtend (tVar i) (tCons (tV (gx tb X) sh env me) tNil))) (h : ∀ d, PSs X rest (tS (gx tb X) sh (env.set i d) κ (k d))) (hs : swapsWith ce none pos'.line X.env = pure false := by rfl) :
    PSs X (.Expr ce pos' :: rest) (tS (gx tb X) sh env κ (me.bind fun d => (pExt di d).bind k)) := by
  refine (pss_cons (ps_expr hm hs) (pss_ex h)).imp fun Dn σ H ⟨F, A, r, s, e, q⟩ => ?_
  obtain ⟨d, hd, e⟩ := Option.bind_eq_some_iff.mp e
  obtain ⟨d', hd', e⟩ := Option.bind_eq_some_iff.mp e
  cases di with
  | list ds =>
   cases d with
   | list es =>
    unfold pExt at hd'
    simp only at hd'
    split at hd'
    · rename_i hlt
      cases hd'
      obtain ⟨l, vs, hσ, hH, rl, hA⟩ := own_list s h1 h2
      refine ⟨.ref l, hσ, .inl ⟨rfl, vs, .inl (.inl hH)⟩, F, A, _, s, hd, fun v F1 H1 w1 ⟨p, ws, ev, hp, rp⟩ => ?_⟩
      subst ev
      have s1 := s.grow w1
      have hH1 : H1 l = some (.lst vs) := w1.keep.of hH (fun _ z => nomatch z)
      obtain ⟨s2, y2⟩ := s1.rewrite (o := .lst (vs ++ ws)) (d' := .list (ds ++ es)) h1 h2 hσ hA (fun _ z => nomatch z) rfl ⟨l, _, rfl, upd_same, (rl.mono w1.sub).append rp⟩
      exact ⟨l, p, vs, ws, rfl, rfl, hH1, hp, by rw [lim_eq, rl.length, rp.length]; exact hlt, .list (ds ++ es), F1, A, r, s2, e, q.step ((Evo.of w1).trans y2)⟩
    · cases hd'
   | _ => cases hd'
  | _ => cases d <;> cases hd'
/-- x += e of ints and texts -/
def pIAdd : PyData → PyData → Option PyData
  | .int a, .int b => some (.int (a + b))
  | .str a, .str b => if a.length + b.length ≤ 16777216 then some (.str (a ++ b)) else none
  | _, _ => none
def pISub : PyData → PyData → Option PyData
  | .int a, .int b => some (.int (a - b))
  | _, _ => none
def rIp (g : Gx) (f : PyData → PyData → Option PyData) : TIp := fun x y H Q => ∃ F a b d, Good F H ∧ Rep g F x a ∧ View g F H y b ∧ f a b = some d ∧ ∀ v F' H', Grow F H F' H' → Rep g F' v d → Q v H'
theorem ip_addD : PIp X .Add (rIp (gx tb X) pIAdd) := by
  intro pins s σ H x y v u Q I rx ry ⟨F, a, b, d, gd, pa, pb, e, q⟩
  unfold pIAdd at e
  split at e
  · cases e; cases pa; cases pb
    exact ip_add pins s σ H _ _ v u Q I rx ry ⟨_, _, rfl, rfl, q _ F H (.refl gd) (.int _)⟩
  · split at e
    · rename_i hl
      cases e
      cases pa with | str _ ka la =>
      cases pb with | str _ kb lb =>
      exact iop_add_str pins s σ H _ _ v u Q I rx ry ⟨_, _, rfl, rfl, by rw [lim_eq]; exact hl, q _ F H (.refl gd) (.str _ (ok_app ka kb) (by rw [len_app]; exact hl))⟩
    · cases e
  · cases e
theorem ip_subD : PIp X .Sub (rIp (gx tb X) pISub) := by
  intro pins s σ H x y v u Q I rx ry ⟨F, a, b, d, gd, pa, pb, e, q⟩
  unfold pISub at e
  split at e
  · cases e; cases pa; cases pb
    exact ip_sub pins s σ H _ _ v u Q I rx ry ⟨_, _, rfl, rfl, q _ F H (.refl gd) (.int _)⟩
  · cases e
theorem s_aug {op : Operator} {f : PyData → PyData → Option PyData} {k : PyData → Option ρ} {px : Pos} (ho : PIp X op (rIp (gx tb X) f)) (hN : X.N.Nodup) (hx : X.N[i]? = some x) (hl : Loc X.env.scope x) (h1 : sh[i]? = some .fr) (h2 : env[i]? = some di) (he : PE X e (tV (gx tb X) sh env me)) (h : ∀ d, PSs X rest (tS (gx tb X) sh (env.set i d) κ (k d)))
    (hf : X.fn x = true ∨ X.env.scope.names.lookup x = some .local := by first | exact .inl rfl | exact .inr rfl | assumption) : PSs X (.AugAssign (.Name x px) op e pos :: rest) (tS (gx tb X) sh env κ (me.bind fun d => (f di d).bind k)) :=
  (pss_cons (ps_aug hN hx hl he ho hf) (pss_ex h)).imp fun Dn σ H ⟨F, A, r, s, e, q⟩ => by
    obtain ⟨d, hd, e⟩ := Option.bind_eq_some_iff.mp e
    obtain ⟨d', hd', e⟩ := Option.bind_eq_some_iff.mp e
    obtain ⟨x0, hx0, _, v, rfl, rv⟩ := s.get h1 h2
    have hi : i < sh.length := (List.getElem?_eq_some_iff.mp h1).1
    have hsh : sh.set i .fr = sh := by rw [← List.getElem?_eq_some_iff.mp h1 |>.2]; simp
    refine ⟨v, hx0, F, A, d, s, hd, fun y F1 H1 w1 p1 => ⟨F1, di, d, d', w1.good, w1.rep rv, p1, hd', fun z F2 H2 w2 rz => ?_⟩⟩
    have s2 := ((s.grow w1).grow w2).put_fr hi rz
    rw [hsh] at s2
    exact ⟨d', F2, _, r, s2, e, q.step ((Evo.of (w1.trans w2)).trans (.put fun _ m => nomatch m))⟩
end
/-! ### a def's promise -/
/-- what a def does: kinds of its parameters, the kind of what it returns -/
def spD (g : Gx) (ks : List Sl) (T : OT) (m : List PyData → Option PyData) : Sp := fun vs H Q _ => ∃ F ds d, Good F H ∧ (∀ P, g.tb P → TabAt H P) ∧ vs.length = ks.length ∧ ds.length = ks.length ∧
  (∀ (i : Nat) s v d, ks[i]? = some s → vs[i]? = some v → ds[i]? = some d → SlotOk g F H s d (some v) []) ∧ m ds = some d ∧
  ∀ v F' H' Bs, Grow F H F' H' → Own g F' H' T v d Bs → Bs.Nodup → (∀ a ∈ Bs, F' a = none ∧ H a = none) → Q v H'
/-- a body's wishes -/
def kBody (T : OT) (n : Nat) : Kont PyData where
  ns := List.replicate n .un
  nx := fun _ r => r = .none
  rT := T
  rt := fun d r => d = r
  bs := List.replicate n .un
  bk := fun _ _ => False
theorem start_at (N : List Str) (vs : List V) (hl : vs.length ≤ N.length) (i : Nat) (x : Option V) (h : (L2.start N vs)[i]? = some x) : (i < vs.length ∧ ∃ v, vs[i]? = some v ∧ x = some v) ∨ (vs.length ≤ i ∧ x = none) := by
  unfold L2.start at h
  by_cases hi : i < vs.length
  · rw [List.getElem?_append_left (by simpa using hi), List.getElem?_map, List.getElem?_eq_getElem hi] at h
    cases h
    exact .inl ⟨hi, _, List.getElem?_eq_getElem hi, rfl⟩
  · rw [List.getElem?_append_right (by simpa using hi), List.getElem?_replicate] at h
    split at h
    · cases h; exact .inr ⟨by omega, rfl⟩
    · cases h
/-- the reading of a body from its promise; nothing returned is None -/
theorem spD_go {g : Gx} {N : List Str} {ks : List Sl} {T : OT} {m : List PyData → Option PyData} {vs : List V} {H : Hp} {Q : VK} {E : XK} (hks : ks.length ≤ N.length) (hT : T = .fr) (h : spD g ks T m vs H Q E) :
    ∃ ds : List PyData, ds.length = ks.length ∧ ∀ t : TS, (∀ Dn σ H, tS g (ks ++ List.replicate (N.length - ks.length) .un) (ds ++ List.replicate (N.length - ks.length) .none) (kBody T N.length) (m ds) Dn σ H → t Dn σ H) → t { nx := fun _ H' => Q .non H', rt := Q } (L2.start N vs) H := by
  subst hT
  obtain ⟨F, ds, d, gd, tt, l1, l2, ok, hd, q⟩ := h
  refine ⟨ds, l2, fun t ht => ht _ _ _ ⟨F, fun _ => [], d, ⟨gd, by simp [l2], by simp [L2.start, l1], fun i s d' x h1 h2 h3 => ?_, fun _ _ => rfl, (fun i a m => nomatch m), fun _ => List.nodup_nil, (fun i j _ a m => nomatch m), tt⟩, hd, ?_⟩⟩
  · by_cases hi : i < ks.length
    · rw [List.getElem?_append_left hi] at h1
      rw [List.getElem?_append_left (by omega)] at h2
      rcases start_at N vs (by omega) i x h3 with ⟨_, v, hv, rfl⟩ | ⟨hi', _⟩
      · exact ok i s v d' h1 hv h2
      · omega
    · rw [List.getElem?_append_right (by omega), List.getElem?_replicate] at h1
      split at h1
      · cases h1; rfl
      · cases h1
  · have gr : ∀ {F' H' A'}, Evo F H (fun _ => []) F' H' A' → Good F' H' → Grow F H F' H' := fun y gd' => ⟨y.sub, fun a o e => y.keep a o e (fun _ m => nomatch m), gd', fun a h1 h2 => (y.new a h1 h2).elim (fun ⟨_, m⟩ => nomatch m) id⟩
    refine ⟨fun env σ F' H' A' y s k => ?_, fun d' v F' H' A' Bs y gd' o nd n k => ?_, fun env σ F' H' A' y s k => k.elim⟩
    · have k' : d = .none := k
      subst k'
      exact q .non F' H' [] (gr y s.good) ⟨rfl, .non⟩ List.nodup_nil (fun _ m => nomatch m)
    · have k' : d' = d := k
      subst k'
      exact q v F' H' Bs (gr y gd') o nd fun a m => ⟨(n a m).1, (n a m).2.elim (fun ⟨_, z⟩ => nomatch z) id⟩
end Mir
namespace Mir
open PySem PySem.Spec PyProof.Rows L2
/-! ### list comprehensions -/
/-- each item gives a thing, or nothing -/
def lcS (f : PyData → Option (Option PyData)) : List PyData → Option (List PyData)
  | [] => some []
  | x :: xs => (f x).bind fun o => (lcS f xs).bind fun r => some (match o with
    | some y => y :: r
    | none => r)
theorem lcS_len (f : PyData → Option (Option PyData)) : ∀ (xs r : List PyData), lcS f xs = some r → r.length ≤ xs.length
  | [], r, h => by cases h; simp
  | x :: xs, r, h => by
    obtain ⟨o, _, h⟩ := Option.bind_eq_some_iff.mp h
    obtain ⟨r', hr, h⟩ := Option.bind_eq_some_iff.mp h
    have := lcS_len f xs r' hr
    cases o <;> (cases h; simp; omega)
/-- the slots that a block owns are forgotten -/
def unS (sh : List Sl) : List Nat → List Sl
  | [] => sh
  | v :: vs => (unS sh vs).set v .un
theorem unS_len (sh : List Sl) : ∀ vs, (unS sh vs).length = sh.length
  | [] => rfl
  | v :: vs => by unfold unS; rw [List.length_set, unS_len sh vs]
theorem unS_at {sh : List Sl} {t : Sl} {i : Nat} : ∀ {vs : List Nat}, (unS sh vs)[i]? = some t → (i ∈ vs ∧ t = .un) ∨ (i ∉ vs ∧ sh[i]? = some t)
  | [], h => .inr ⟨by simp, h⟩
  | v :: vs, h => by
    unfold unS at h
    by_cases hi : v = i
    · subst hi
      have hv : v < (unS sh vs).length := by have := (List.getElem?_eq_some_iff.mp h).1; simpa using this
      rw [List.getElem?_set_self hv] at h
      cases h; exact .inl ⟨by simp, rfl⟩
    · rw [List.getElem?_set_ne hi] at h
      rcases unS_at h with ⟨h1, h2⟩ | ⟨h1, h2⟩
      · exact .inl ⟨by simp [h1], h2⟩
      · exact .inr ⟨by simp only [List.mem_cons, not_or]; exact ⟨fun e => hi e.symm, h1⟩, h2⟩
theorem wipe_out' {σ : L2.St} {i : Nat} : ∀ {vs : List Nat}, i ∉ vs → (wipe σ vs)[i]? = σ[i]?
  | [], _ => rfl
  | v :: vs, h => by
    simp only [List.mem_cons, not_or] at h
    unfold wipe
    rw [List.getElem?_set_ne (fun e => h.1 e.symm)]
    exact wipe_out' h.2
theorem wipe_in {σ : L2.St} {i : Nat} : ∀ {vs : List Nat}, i ∈ vs → i < σ.length → (wipe σ vs)[i]? = some none
  | [], h, _ => nomatch h
  | v :: vs, h, hi => by
    unfold wipe
    by_cases e : v = i
    · subst e; rw [List.getElem?_set_self (by rw [wipe_length]; exact hi)]
    · rw [List.getElem?_set_ne e]
      exact wipe_in ((List.mem_cons.mp h).resolve_left fun z => e z.symm) hi
theorem wipe_eq {σ σ' : L2.St} {vs : List Nat} (hl : σ'.length = σ.length) (h : ∀ j, j ∉ vs → σ'[j]? = σ[j]?) : wipe σ' vs = wipe σ vs := by
  apply List.ext_getElem?
  intro i
  by_cases m : i ∈ vs
  · by_cases hi : i < σ.length
    · rw [wipe_in m hi, wipe_in m (by omega)]
    · rw [List.getElem?_eq_none (by rw [wipe_length]; omega), List.getElem?_eq_none (by rw [wipe_length]; omega)]
  · rw [wipe_out' m, wipe_out' m, h i m]
section
variable {g : Gx} {sh sh' : List Sl} {env : List PyData} {σ : L2.St} {F H : Hp} {A : AF} {vs : List Nat}
/-- the owned objects outside of the forgotten slots -/
theorem St0.wipe (s : St0 g sh env σ F H A) (hv : ∀ i ∈ vs, sh[i]? = some .un ∨ sh[i]? = some .fr) : St0 g (unS sh vs) env (wipe σ vs) F H A := by
  refine ⟨s.good, by rw [unS_len]; exact s.le, by rw [unS_len, wipe_length]; exact s.ls, fun i t d x h1 h2 h3 => ?_, fun i hi => s.out i (by rw [unS_len] at hi; exact hi), s.fre, s.nd, s.dj, s.tb⟩
  rcases unS_at h1 with ⟨m, rfl⟩ | ⟨m, h⟩
  · rcases hv i m with e | e
    · have hi := (List.getElem?_eq_some_iff.mp e).1
      exact s.ok i .un d (σ[i]'(by rw [s.ls]; exact hi)) e h2 (List.getElem?_eq_getElem _)
    · have hi := (List.getElem?_eq_some_iff.mp e).1
      exact (s.ok i .fr d (σ[i]'(by rw [s.ls]; exact hi)) e h2 (List.getElem?_eq_getElem _)).1
  · rw [wipe_out' m] at h3
    exact s.ok i t d x h h2 h3
/-- a new list outside of all this is rewritten -/
theorem St0.aside (s : St0 g sh env σ F H A) {l : Addr} {o : HO} (nt : ∀ ps, H l ≠ some (.tbl ps)) (fl : F l = none) (nA : ∀ i, l ∉ A i) : St0 g sh env σ F (upd H l o) A := by
  refine ⟨⟨fun a u e => by rw [upd_ne (fun z => by rw [z, fl] at e; cases e)]; exact s.good.sub a u e, s.good.notb⟩, s.le, s.ls, fun i t d x h1 h2 h3 => (s.ok i t d x h1 h2 h3).mono (.refl _) fun a m u e _ => ?_, s.out, s.fre, s.nd, s.dj, fun P t => (s.tb P t).upd nt⟩
  · rw [upd_ne (fun z => nA i (by rw [← z]; exact m))]; exact e
end
/-- the tests of a clause -/
def tIf (g : Gx) (sh : List Sl) (env : List PyData) (m : Option Bool) : TT := tT g sh env m
section
variable {X : Cx} {tb : Addr → Prop} {e tg iter elt : Expr} {sh shB : List Sl} {env : List PyData} {δ : Type} {mi : Option (List PyData)} {mg : PyData → Option δ} {eg : δ → List PyData} {G : List Nat} {fe : δ → Option PyData} {ft : δ → Option Bool} {pos : Pos} {ifs : List Expr} {own : List (Str × Nat)} {scope : Scope}
theorem _root_.L2.PTs.imp {X : Cx} {e : List Expr} {t t' : TT} (h : PTs X e t) (k : ∀ σ H Q, t' σ H Q → t σ H Q) : PTs X e t' := ⟨fun pins s σ H Q I q => h.run pins s σ H Q I (k σ H Q q)⟩
/-- one turn: the tests, the element -/
def lcT (ft : δ → Option Bool) (fe : δ → Option PyData) (z : δ) : Option (Option PyData) := (ft z).bind fun b => if b = true then (fe z).bind fun d => some (some d) else some none
theorem lc_go {σ : L2.St} {H : Hp} {Q : VK} (hG : ∀ j ∈ G, j ∈ own.map (·.2)) (hv : ∀ i ∈ own.map (·.2), sh[i]? = some .un ∨ sh[i]? = some .fr)
    (h : tO (gx tb X) .any sh env (mi.bind fun xs => if xs.length ≤ 16777216 then (lcS (fun d => (mg d).bind (lcT ft fe)) xs).bind fun r => some (.list r) else none) σ H Q) :
    tLc (tI (gx tb X) sh env mi) (tG (gx tb X) G (unS sh (own.map (·.2))) env shB mg eg) (fun σ H Q => ∃ z, tT (gx tb X) shB (eg z) (ft z) σ H Q) (fun σ H Q => ∃ z, tE (gx tb X) shB (eg z) (fe z) σ H Q) (own.map (·.2)) σ H Q := by
  obtain ⟨F, A, d, s, e, q⟩ := h
  obtain ⟨xs, hxs, e⟩ := Option.bind_eq_some_iff.mp e
  split at e
  · rename_i hlen
    obtain ⟨r, hr, e⟩ := Option.bind_eq_some_iff.mp e
    cases e
    refine ⟨F, A, xs, s, hxs, fun J F1 H1 w1 J1 Dl hD => ?_⟩
    have s1 := s.grow w1
    have fD : F1 Dl = none := w1.good.nn hD
    have nA : ∀ i, Dl ∉ A i := fun i m => by
      obtain ⟨u, hu, _⟩ := s1.there i Dl m
      rw [hD] at hu; cases hu
    generalize hf : (fun d => (mg d).bind (lcT ft fe)) = f at hr
    -- what holds: the list so far, what is still to come
    refine ⟨fun i n H' => n = xs.length - i ∧ i ≤ xs.length ∧ ∃ F' vs ds rs, Grow F1 H1 F' H' ∧ F' Dl = none ∧ H' Dl = some (.lst vs) ∧ RepL (gx tb X) F' vs ds ∧ lcS f (xs.drop i) = some rs ∧ ds ++ rs = r ∧ St0 (gx tb X) sh env σ F' H' A, ⟨_, rfl, Nat.zero_le _, F1, [], [], r, ?_, fD, upd_same, .nil, by simpa using hr, rfl, s1.aside (fun _ z => by rw [hD] at z; cases z) fD nA⟩, ?_⟩
    · exact Grow.mk0 w1.good hD (fun _ z => nomatch z)
    rintro i n H' ⟨rfl, hi, F', vs, ds, rs, w2, fD', hH', rv, hrs, hds, s'⟩
    by_cases hlt : i < xs.length
    · refine .inr ⟨J1.go i F' H' w2.sub s'.good hlt, fun H2 => i + 1 ≤ xs.length ∧ ∃ F' vs ds rs, Grow F1 H1 F' H2 ∧ F' Dl = none ∧ H2 Dl = some (.lst vs) ∧ RepL (gx tb X) F' vs ds ∧ lcS f (xs.drop (i + 1)) = some rs ∧ ds ++ rs = r ∧ St0 (gx tb X) sh env σ F' H2 A, fun H2 h => ⟨xs.length - (i + 1), by omega, rfl, h⟩, fun v H2 y => ?_⟩
      obtain ⟨d, F2, hd, w3, r3⟩ := J1.yld i v F' H' H2 w2.sub s'.good hlt y
      have e0 : xs.drop i = d :: xs.drop (i + 1) := by
        rw [List.drop_eq_getElem_cons hlt]
        congr 1
        rw [List.getElem?_eq_getElem hlt] at hd
        exact Option.some.inj hd
      rw [e0] at hrs
      obtain ⟨o, ho, hrs⟩ := Option.bind_eq_some_iff.mp hrs
      obtain ⟨rs', hrs', hrs⟩ := Option.bind_eq_some_iff.mp hrs
      rw [← hf] at ho
      obtain ⟨z, hz, ho⟩ := Option.bind_eq_some_iff.mp ho
      obtain ⟨b, hb, ho⟩ := Option.bind_eq_some_iff.mp ho
      have s3 := s'.grow w3
      have nf : ∀ {F'' H''}, Grow F' H' F'' H'' → F'' Dl = none ∧ H'' Dl = some (.lst vs) := fun {F'' H''} w => by
        refine ⟨?_, w.keep.of hH' fun _ z => nomatch z⟩
        cases q : F'' Dl with
        | none => rfl
        | some u =>
          have := w.new Dl fD' (by rw [q]; simp)
          rw [hH'] at this; cases this
      have up : ∀ {F'' H'' vs'}, Grow F' H' F'' H'' → Grow F1 H1 F'' (upd H'' Dl (.lst vs')) ∧ St0 (gx tb X) sh env σ F'' (upd H'' Dl (.lst vs')) A := fun {F'' H'' vs'} w => by
        have s5 := (s'.grow w).aside (o := .lst vs') (fun _ z => by rw [(nf w).2] at z; cases z) (nf w).1 nA
        have w5 := w2.trans w
        exact ⟨⟨w5.sub, fun a o e => (by
          have ne : a ≠ Dl := fun z => by rw [z, hD] at e; cases e
          rw [upd_ne ne]; exact w5.keep a o e), s5.good, w5.new⟩, s5⟩
      refine ⟨F2, A, d, z, s3.wipe hv, r3, hz, fun σ2 A2 n2 y2 s4 => ⟨wipe_eq (by rw [n2.1, wipe_length]) (fun j hj => ?_), z, F2, A2, b, s4, hb, fun F4 H4 w4 => ?_⟩⟩
      · rw [n2.2 j (fun m => hj (hG j m)), wipe_out' hj]
      cases b with
      | false =>
        cases ho; cases hrs
        obtain ⟨k1, k2⟩ := nf (w3.trans w4)
        refine ⟨hlt, F4, vs, ds, _, (w2.trans w3).trans w4, k1, k2, rv.mono (w3.trans w4).sub, hrs', hds, s3.grow w4⟩
      | true =>
        obtain ⟨d5, hd5, ho⟩ := Option.bind_eq_some_iff.mp ho
        cases ho; cases hrs
        refine ⟨z, F4, A2, d5, s4.grow w4, hd5, fun y F5 H5 w5 r5 => ?_⟩
        have w6 := (w3.trans w4).trans w5
        obtain ⟨k1, k2⟩ := nf w6
        obtain ⟨k3, k4⟩ := up (vs' := vs ++ [y]) w6
        have hl1 := lcS_len f _ _ hrs'
        have hl2 : ds.length + (rs'.length + 1) = r.length := by rw [← hds]; simp
        refine ⟨vs, k2, ?_, hlt, F5, vs ++ [y], ds ++ [d5], rs', k3, k1, upd_same, (rv.mono w6.sub).append (.cons r5 .nil), hrs', by rw [← hds]; simp, k4⟩
        have hl3 := lcS_len f xs r hr
        rw [lim_eq, rv.length]; omega
    · have e0 : i = xs.length := by omega
      subst e0
      rw [List.drop_length] at hrs
      cases hrs
      rw [List.append_nil] at hds
      subst hds
      refine .inl ⟨J1.stop _ F' H' w2.sub s'.good (Nat.le_refl _), q _ F' H' [Dl] (w1.trans w2) ⟨rfl, Dl, vs, rfl, hH', rv⟩ (by simp) fun a m => ?_⟩
      obtain rfl : a = Dl := by simpa using m
      exact ⟨fD', w1.keep.nn hD⟩
  · cases e
/-- [elt for tg in iter if ..] -/
theorem e_lc (hc : X.calm = true) (hN : X.N.Nodup) (hi : PI X tg iter (tI (gx tb X) sh env mi)) (ok : BlkOk X.N X.env.scope scope own) (hG : ∀ j ∈ G, j ∈ own.map (·.2)) (hv : ∀ i ∈ own.map (·.2), sh[i]? = some .un ∨ sh[i]? = some .fr)
    (hg : ∀ (s : Shared) (H : Hp) (C : Addr) (cl : List (Str × Addr)) (fp : List Addr), PG (X.blk s H scope (compEnvC scope cl C X.env) fp) tg (tG (gx tb X) G (unS sh (own.map (·.2))) env shB mg eg))
    (ht : ∀ (s : Shared) (H : Hp) (C : Addr) (cl : List (Str × Addr)) (fp : List Addr), PTs (X.blk s H scope (compEnvC scope cl C X.env) fp) ifs (fun σ H Q => ∃ z, tT (gx tb X) shB (eg z) (ft z) σ H Q))
    (he : ∀ (s : Shared) (H : Hp) (C : Addr) (cl : List (Str × Addr)) (fp : List Addr) z, PE (X.blk s H scope (compEnvC scope cl C X.env) fp) elt (tE (gx tb X) shB (eg z) (fe z))) (hs : ∀ x, foldedSetIterable iter X.env x = pure x := by intro _; rfl) :
    PE X (.ListComp elt [⟨tg, iter, ifs, 0⟩] scope pos) (tO (gx tb X) .any sh env (mi.bind fun xs => if xs.length ≤ 16777216 then (lcS (fun d => (mg d).bind (lcT ft fe)) xs).bind fun r => some (.list r) else none)) :=
  (pe_lc hc hN hi ok hg ht (fun s H C cl fp => ⟨fun pins s' σ H' Q I ⟨z, q⟩ => (he s H C cl fp z).run pins s' σ H' Q I q⟩) hs).imp fun _ _ _ h => lc_go hG hv h
/-- no tests | one test -/
theorem ts_nil : PTs X [] (fun σ H Q => ∃ z : δ, tT (gx tb X) shB (eg z) (some true) σ H Q) := pts_nil.imp fun σ H Q ⟨z, F, A, b, s, e, q⟩ => by cases e; exact q F H (.refl s.good)
theorem ts_one (h : ∀ z, PT X e (tT (gx tb X) shB (eg z) (ft z))) : PTs X [e] (fun σ H Q => ∃ z : δ, tT (gx tb X) shB (eg z) (ft z) σ H Q) := pts_one ⟨fun pins s σ H Q I ⟨z, q⟩ => (h z).run pins s σ H Q I q⟩
/-- y = [..] -/
theorem s_lcO {ρ : Type} {κ : Kont ρ} {rest : List Stmt} {k : PyData → Option ρ} {i : Nat} {y : Str} {py spos : Pos} (hc : X.calm = true) (hN : X.N.Nodup) (hy : X.N[i]? = some y) (hyl : X.env.scope.names.lookup y = some .local) (hil : i < sh.length)
    (hsw : swapsWith (.ListComp elt [⟨tg, iter, ifs, 0⟩] scope pos) (some (.Name y py)) spos.line X.env = pure true) (hi : PI X tg iter (tI (gx tb X) sh env mi)) (ok : BlkOk X.N X.env.scope scope own) (hG : ∀ j ∈ G, j ∈ own.map (·.2)) (hv : ∀ i ∈ own.map (·.2), sh[i]? = some .un ∨ sh[i]? = some .fr)
    (hg : ∀ (s : Shared) (H : Hp) (C : Addr) (cl : List (Str × Addr)) (fp : List Addr), PG (X.blk s H scope (compEnvC scope cl C X.env) fp) tg (tG (gx tb X) G (unS sh (own.map (·.2))) env shB mg eg))
    (ht : ∀ (s : Shared) (H : Hp) (C : Addr) (cl : List (Str × Addr)) (fp : List Addr), PTs (X.blk s H scope (compEnvC scope cl C X.env) fp) ifs (fun σ H Q => ∃ z, tT (gx tb X) shB (eg z) (ft z) σ H Q))
    (he : ∀ (s : Shared) (H : Hp) (C : Addr) (cl : List (Str × Addr)) (fp : List Addr) z, PE (X.blk s H scope (compEnvC scope cl C X.env) fp) elt (tE (gx tb X) shB (eg z) (fe z)))
    (h : ∀ d, PSs X rest (tS (gx tb X) (sh.set i (.ow .any)) (env.set i d) κ (k d))) (hs : ∀ x, foldedSetIterable iter X.env x = pure x := by intro _; rfl) :
    PSs X (.Assign [.Name y py] (.ListComp elt [⟨tg, iter, ifs, 0⟩] scope pos) spos :: rest) (tS (gx tb X) sh env κ ((mi.bind fun xs => if xs.length ≤ 16777216 then (lcS (fun d => (mg d).bind (lcT ft fe)) xs).bind fun r => some (.list r) else none).bind k)) :=
  asg_ow (h0 := ps_setLc hc hN hy hyl hsw hi ok hg ht (fun s H C cl fp => ⟨fun pins s' σ H' Q I ⟨z, q⟩ => (he s H C cl fp z).run pins s' σ H' Q I q⟩) hs) (fun _ _ _ h => lc_go hG hv h) hil h
end
end Mir
namespace Mir
open PySem PySem.Spec PyProof.Rows L2
/-- a def as its callers see it -/
structure CallOk (g : Gx) (mg : Str → Option Value) (base : Heap) (x : Str) (k : Nat) (ks : List Sl) (T : OT) (m : List PyData → Option PyData) : Prop where
  ex : ∃ (f : Addr) (fd : FuncData) (ps : List Str), FnOk g.P g.w g.K mg base CX0 k f fd ps (spD g ks T m) ∧ mg x = some (.ref f) ∧ PySem.W.keepIn g.K (.ref f) = true ∧ Binds g.K fd ps []
/-- the ways the arguments are seen -/
def kinds (g : Gx) : List Sl → List Pr
  | [] => []
  | .sc :: ks => pScr g :: kinds g ks
  | _ :: ks => pRep g :: kinds g ks
def parK : List Sl → Bool
  | [] => true
  | .fr :: ks => parK ks
  | .sc :: ks => parK ks
  | _ :: _ => false
theorem kinds_len (g : Gx) : ∀ ks, (kinds g ks).length = ks.length
  | [] => rfl
  | .sc :: ks => by simp [kinds, kinds_len g ks]
  | .fr :: ks => by simp [kinds, kinds_len g ks]
  | .un :: ks => by simp [kinds, kinds_len g ks]
  | .ow _ :: ks => by simp [kinds, kinds_len g ks]
theorem kinds_at {g : Gx} {F H : Hp} {s : Sl} {v : V} {d : PyData} : ∀ {ks : List Sl} {i : Nat}, parK ks = true → ks[i]? = some s → (∀ P, (kinds g ks)[i]? = some P → P F H v d) → SlotOk g F H s d (some v) []
  | [], _, _, h, _ => by simp at h
  | .fr :: ks, 0, _, h, k => by
    simp at h; subst h
    exact ⟨rfl, v, rfl, k _ rfl⟩
  | .sc :: ks, 0, _, h, k => by
    simp at h; subst h
    exact ⟨rfl, v, rfl, k _ rfl⟩
  | .fr :: ks, i + 1, hk, h, k => kinds_at (ks := ks) (i := i) hk (by simpa using h) (fun P e => k P (by simpa [kinds] using e))
  | .sc :: ks, i + 1, hk, h, k => kinds_at (ks := ks) (i := i) hk (by simpa using h) (fun P e => k P (by simpa [kinds] using e))
  | .un :: _, _, hk, _, _ => by cases hk
  | .ow _ :: _, _, hk, _, _ => by cases hk
def ap1 (m : PyData → Option PyData) : List PyData → Option PyData
  | [a] => m a
  | _ => none
def ap2 (m : PyData → PyData → Option PyData) : List PyData → Option PyData
  | [a, b] => m a b
  | _ => none
def ap3 (m : PyData → PyData → PyData → Option PyData) : List PyData → Option PyData
  | [a, b, c] => m a b c
  | _ => none
def ap4 (m : PyData → PyData → PyData → PyData → Option PyData) : List PyData → Option PyData
  | [a, b, c, d] => m a b c d
  | _ => none
def ap5 (m : PyData → PyData → PyData → PyData → PyData → Option PyData) : List PyData → Option PyData
  | [a, b, c, d, e] => m a b c d e
  | _ => none
def ap6 (m : PyData → PyData → PyData → PyData → PyData → PyData → Option PyData) : List PyData → Option PyData
  | [a, b, c, d, e, f] => m a b c d e f
  | _ => none
section
variable {X : Cx} {tb : Addr → Prop} {ρ τ : Type} {st : Stmt} {rest : List Stmt} {e : Expr} {es : List Expr} {sh sh' : List Sl} {env : List PyData} {κ : Kont ρ} {ms : List (Option PyData)} {pos p : Pos} {x : Str} {ks : List Sl} {T : OT} {m : List PyData → Option PyData} {k j : Nat}
theorem e_call (C : CallOk (gx tb X) X.mg X.base x j ks T m) (hr : Room k X.A) (hj : j ≤ k) (hg : Gl X x) (ha : PA X (e :: es) (tA (gx tb X) (kinds (gx tb X) ks) sh env ms)) (hk : parK ks = true) (hdb : (x == ("__debug__" : Str)) = false := by decide)
    (he : starEach (e :: es) X.env = (false, eval e X.env) :: starEach es X.env := by rfl) (hpl : (backTo pos (starEach es X.env)).any (·.1) = false := by rfl) :
    PE X (.Call (.Name x p) (e :: es) [] pos) (tO (gx tb X) T sh env (bindL ms m)) := by
  obtain ⟨f, fd, ps, F, hm, hkp, hb⟩ := C.ex
  refine (pe_call F (hr.mono hj) hg hm hkp hb .nil pass0 ha hdb he hpl).imp fun σ H Q ⟨F, A, d, s, e, q⟩ => ?_
  obtain ⟨ds, hds, e⟩ := bindL_some e
  refine ⟨F, A, ds, s, hds, fun vs F1 H1 w1 r => ?_⟩
  have hl : ds.length = ks.length := by rw [r.2.1, kinds_len]
  show spD (gx tb X) ks T m (vs ++ []) H1 Q E0
  rw [List.append_nil]
  refine ⟨F1, ds, d, w1.good, fun P t => (s.tb P t).keep w1.keep, r.1.trans hl, hl, fun i s' v d' h1 h2 h3 => kinds_at hk h1 fun P hP => r.2.2 i v d' P h2 h3 hP, e, fun v F' H' Bs w o nd n => q v F' H' Bs (w1.trans w) o nd fun a m => ⟨(n a m).1, w1.keep.nn (n a m).2⟩⟩
/-- what stands between a statement and the rest, said once -/
def jn {τ ρ : Type} (k : τ → Option ρ) (f : (τ → Option ρ) → Option ρ) : Option ρ := f k
theorem s_jn {emb : τ → List PyData} {k : τ → Option ρ} {f : (τ → Option ρ) → Option ρ} (p1 : ∀ k, PS X st (tS (gx tb X) sh env (κ.mid sh' emb k) (f k))) (h2 : ∀ t, PSs X rest (tS (gx tb X) sh' (emb t) κ (k t))) : PSs X (st :: rest) (tS (gx tb X) sh env κ (jn k f)) := s_seq (p1 k) h2
end
/-- the promise of a def from its body -/
theorem f_ok {P : Program} {w : World} {K : PySem.W.Frag} {mg : Str → Option Value} {base : Heap} {x qual : Str} {st : Stmt} {f : Addr} {fd : FuncData} {N ps : List Str} {k : Nat} {ks : List Sl} {m : List PyData → Option PyData} {tb : Addr → Prop}
    (F : Fun K x qual st f fd) (S : FnScope N ps (defScope st)) (hl : ps.length = ks.length) (hn : ks.length ≤ N.length)
    (h : ∀ (cdv : Value) (A : Around) (outer : List Env) (s : Shared) (H : Hp) (E : XK) (ds : List PyData), Room k (A.deeper (envOfC qual (defScope st) s.heap.objs.size f cdv)) → ds.length = ks.length →
      PSs (cxOf CX0 P w K mg base N qual (defScope st) f cdv A outer s H E).nox (defBody st) (tS ⟨P, w, K, tb⟩ (ks ++ List.replicate (N.length - ks.length) .un) (ds ++ List.replicate (N.length - ks.length) .none) (kBody .fr N.length) (m ds))) :
    FnOk P w K mg base CX0 (k + 1) f fd ps (spD ⟨P, w, K, tb⟩ ks .fr m) := by
  refine F.ok S (fun vs H Q E h => ?_) fun cdv A outer s H vs Q E hr hsp => ?_
  · obtain ⟨_, _, _, _, _, l1, _⟩ := h
    rw [l1, hl]
  · obtain ⟨ds, hds, go⟩ := spD_go hn rfl hsp
    exact ⟨_, h cdv A outer s H E ds hr hds, go _ fun _ _ _ q => q⟩
end Mir
namespace Mir
open PySem PySem.Spec PyProof.Rows L2
section
variable {X : Cx} {tb : Addr → Prop} {e e1 e2 tg : Expr} {sh : List Sl} {env : List PyData} {m m1 m2 me : Option PyData} {pos : Pos} {k : Nat}
/-! ### -x -/
def pNeg : PyData → Option PyData
  | .int i => some (.int (-i))
  | _ => none
theorem e_neg (h : PE X e (tE (gx tb X) sh env m)) : PE X (.UnaryOp .USub e pos) (tE (gx tb X) sh env (m.bind pNeg)) :=
  (pe_un un_neg h).imp fun σ H Q ⟨F, A, d, s, e, q⟩ => by
    obtain ⟨a, ha, e⟩ := Option.bind_eq_some_iff.mp e
    unfold pNeg at e
    split at e
    · cases e
      exact ⟨F, A, _, s, ha, fun v F1 H1 w1 r => by cases r; exact ⟨_, rfl, q _ F1 H1 w1 (.int _)⟩⟩
    · cases e
/-! ### the signs of a text -/
def pSgs : PyData → Option (List PyData)
  | .str z => some (z.cps.toList.map fun c => .str ⟨#[c]⟩)
  | _ => none
theorem it_str {g : Gx} {F : Hp} {z : Str} (ok : PyData.strOk z = true) : IterOk g (Its z) F (z.cps.toList.map fun c => .str ⟨#[c]⟩) where
  go := fun i F' H s gd hi => by show i < z.cps.size; simpa using hi
  stop := fun i F' H s gd hi => by show z.cps.size ≤ i; simpa using hi
  yld := fun i v F' H H' s gd hi y => by
    obtain ⟨rfl, c, hc, rfl⟩ := y
    have hc' : z.cps.toList[i]? = some c := by simpa using hc
    exact ⟨_, F', by rw [List.getElem?_map, hc']; rfl, .refl gd, rep1 ok (List.mem_of_getElem? hc')⟩
theorem i_sgs (h : PE X e (tE (gx tb X) sh env me)) : PI X tg e (tI (gx tb X) sh env (me.bind pSgs)) :=
  (pi_str h).imp fun σ H R ⟨F, A, xs, s, e, q⟩ => by
    obtain ⟨d, hd, e⟩ := Option.bind_eq_some_iff.mp e
    refine ⟨F, A, d, s, hd, fun v F1 H1 w1 r => ?_⟩
    unfold pSgs at e
    split at e
    · cases e
      cases r with | str _ ok _ =>
      exact ⟨_, rfl, q _ F1 H1 w1 (it_str ok)⟩
    · cases e
/-! ### all, any, sum, max, min of a list -/
def asBs : List PyData → Option (List Bool)
  | [] => some []
  | .bool b :: ds => (asBs ds).map (b :: ·)
  | _ :: _ => none
def asIs : List PyData → Option (List Int)
  | [] => some []
  | .int b :: ds => (asIs ds).map (b :: ·)
  | _ :: _ => none
theorem asBs_eq : ∀ {ds : List PyData} {bs : List Bool}, asBs ds = some bs → ds = bs.map .bool
  | [], _, h => by cases h; rfl
  | d :: ds, _, h => by
    cases d with
    | bool b =>
      unfold asBs at h
      obtain ⟨r, hr, rfl⟩ := Option.map_eq_some_iff.mp h
      rw [asBs_eq hr]; rfl
    | _ => cases h
theorem asIs_eq : ∀ {ds : List PyData} {bs : List Int}, asIs ds = some bs → ds = bs.map .int
  | [], _, h => by cases h; rfl
  | d :: ds, _, h => by
    cases d with
    | int b =>
      unfold asIs at h
      obtain ⟨r, hr, rfl⟩ := Option.map_eq_some_iff.mp h
      rw [asIs_eq hr]; rfl
    | _ => cases h
theorem repL_bs {g : Gx} {F : Hp} : ∀ {vs : List V} {bs : List Bool}, RepL g F vs (bs.map .bool) → vs = bs.map V.bl
  | _, [], h => by cases h; rfl
  | _, b :: bs, h => by
    cases h with | cons h1 h2 =>
    cases h1
    rw [repL_bs h2]; rfl
theorem repL_is {g : Gx} {F : Hp} : ∀ {vs : List V} {bs : List Int}, RepL g F vs (bs.map .int) → vs = bs.map V.int
  | _, [], h => by cases h; rfl
  | _, b :: bs, h => by
    cases h with | cons h1 h2 =>
    cases h1
    rw [repL_is h2]; rfl
def pAll : PyData → Option PyData
  | .list ds => (asBs ds).map fun bs => .bool (bs.all id)
  | _ => none
def pAny : PyData → Option PyData
  | .list ds => (asBs ds).map fun bs => .bool (bs.any id)
  | _ => none
def pSum : PyData → Option PyData
  | .list ds => (asIs ds).map fun bs => .int bs.sum
  | _ => none
theorem o_all (hc : X.calm = true) : CallR X (.builtin "all") (rC1 (gx tb X) (pView (gx tb X)) pAll) := (cr_all hc).imp fun xs H Q ⟨F, x, a, d, ex, gd, pa, e, q⟩ => by
  unfold pAll at e
  split at e
  · obtain ⟨p, vs, rfl, h1, r1⟩ := pa
    obtain ⟨bs, hb, rfl⟩ := Option.map_eq_some_iff.mp e
    rw [asBs_eq hb] at r1
    rw [repL_bs r1] at h1
    exact ⟨p, bs, ex, .inl (.inl h1), q.here gd trivial (.bl _)⟩
  · cases e
theorem o_any (hc : X.calm = true) : CallR X (.builtin "any") (rC1 (gx tb X) (pView (gx tb X)) pAny) := (cr_any hc).imp fun xs H Q ⟨F, x, a, d, ex, gd, pa, e, q⟩ => by
  unfold pAny at e
  split at e
  · obtain ⟨p, vs, rfl, h1, r1⟩ := pa
    obtain ⟨bs, hb, rfl⟩ := Option.map_eq_some_iff.mp e
    rw [asBs_eq hb] at r1
    rw [repL_bs r1] at h1
    exact ⟨p, bs, ex, .inl (.inl h1), q.here gd trivial (.bl _)⟩
  · cases e
theorem o_sum (hc : X.calm = true) : CallR X (.builtin "sum") (rC1 (gx tb X) (pView (gx tb X)) pSum) := (cr_sum hc).imp fun xs H Q ⟨F, x, a, d, ex, gd, pa, e, q⟩ => by
  unfold pSum at e
  split at e
  · obtain ⟨p, vs, rfl, h1, r1⟩ := pa
    obtain ⟨bs, hb, rfl⟩ := Option.map_eq_some_iff.mp e
    rw [asIs_eq hb] at r1
    rw [repL_is r1] at h1
    exact ⟨p, bs, ex, .inl (.inl h1), q.here gd trivial (.int _)⟩
  · cases e
def maxI : List Int → Int
  | [] => 0
  | x :: xs => xs.foldl max x
def minI : List Int → Int
  | [] => 0
  | x :: xs => xs.foldl min x
def pMaxL : PyData → Option PyData
  | .list ds => (asIs ds).bind fun bs => if bs.isEmpty then none else some (.int (maxI bs))
  | _ => none
def pMinL : PyData → Option PyData
  | .list ds => (asIs ds).bind fun bs => if bs.isEmpty then none else some (.int (minI bs))
  | _ => none
theorem foldmax : ∀ (xs : List Int) (x : Int), (x ≤ xs.foldl max x) ∧ (∀ y ∈ xs, y ≤ xs.foldl max x) ∧ (xs.foldl max x = x ∨ xs.foldl max x ∈ xs)
  | [], x => ⟨Int.le_refl _, (fun _ m => nomatch m), .inl rfl⟩
  | y :: ys, x => by
    obtain ⟨a, b, c⟩ := foldmax ys (max x y)
    simp only [List.foldl_cons]
    refine ⟨by omega, fun z m => ?_, ?_⟩
    · rcases List.mem_cons.mp m with rfl | m
      · omega
      · exact b z m
    · rcases c with c | c
      · rcases Int.le_total x y with h | h
        · right; rw [c]; simp [Int.max_eq_right h]
        · left; rw [c]; exact Int.max_eq_left h
      · right; exact List.mem_cons_of_mem _ c
theorem foldmin : ∀ (xs : List Int) (x : Int), (xs.foldl min x ≤ x) ∧ (∀ y ∈ xs, xs.foldl min x ≤ y) ∧ (xs.foldl min x = x ∨ xs.foldl min x ∈ xs)
  | [], x => ⟨Int.le_refl _, (fun _ m => nomatch m), .inl rfl⟩
  | y :: ys, x => by
    obtain ⟨a, b, c⟩ := foldmin ys (min x y)
    simp only [List.foldl_cons]
    refine ⟨by omega, fun z m => ?_, ?_⟩
    · rcases List.mem_cons.mp m with rfl | m
      · omega
      · exact b z m
    · rcases c with c | c
      · rcases Int.le_total x y with h | h
        · left; rw [c]; exact Int.min_eq_left h
        · right; rw [c]; simp [Int.min_eq_right h]
      · right; exact List.mem_cons_of_mem _ c
theorem maxI_is {x : Int} {xs : List Int} {m : Int} (h : m ∈ x :: xs) (k : ∀ y ∈ x :: xs, y ≤ m) : m = maxI (x :: xs) := by
  obtain ⟨a, b, c⟩ := foldmax xs x
  have h1 : m ≤ maxI (x :: xs) := by
    rcases List.mem_cons.mp h with rfl | h
    · exact a
    · exact b m h
  have h2 : maxI (x :: xs) ≤ m := by
    rcases c with c | c
    · exact k _ (by show xs.foldl max x ∈ _; rw [c]; simp)
    · exact k _ (List.mem_cons_of_mem _ c)
  omega
theorem minI_is {x : Int} {xs : List Int} {m : Int} (h : m ∈ x :: xs) (k : ∀ y ∈ x :: xs, m ≤ y) : m = minI (x :: xs) := by
  obtain ⟨a, b, c⟩ := foldmin xs x
  have h1 : minI (x :: xs) ≤ m := by
    rcases List.mem_cons.mp h with rfl | h
    · exact a
    · exact b m h
  have h2 : m ≤ minI (x :: xs) := by
    rcases c with c | c
    · exact k _ (by show xs.foldl min x ∈ _; rw [c]; simp)
    · exact k _ (List.mem_cons_of_mem _ c)
  omega
theorem o_maxL (hc : X.calm = true) : CallR X (.builtin "max") (rC1 (gx tb X) (pView (gx tb X)) pMaxL) := (cr_max hc).imp fun xs H Q ⟨F, x, a, d, ex, gd, pa, e, q⟩ => by
  unfold pMaxL at e
  split at e
  · obtain ⟨p, vs, rfl, h1, r1⟩ := pa
    obtain ⟨bs, hb, e⟩ := Option.bind_eq_some_iff.mp e
    rw [asIs_eq hb] at r1
    rw [repL_is r1] at h1
    cases bs with
    | nil => cases e
    | cons y ys =>
      cases e
      exact ⟨p, _, ex, .inl (.inl h1), by simp, fun m h k => by rw [maxI_is h k]; exact q.here gd trivial (.int _)⟩
  · cases e
theorem o_minL (hc : X.calm = true) : CallR X (.builtin "min") (rC1 (gx tb X) (pView (gx tb X)) pMinL) := (cr_min hc).imp fun xs H Q ⟨F, x, a, d, ex, gd, pa, e, q⟩ => by
  unfold pMinL at e
  split at e
  · obtain ⟨p, vs, rfl, h1, r1⟩ := pa
    obtain ⟨bs, hb, e⟩ := Option.bind_eq_some_iff.mp e
    rw [asIs_eq hb] at r1
    rw [repL_is r1] at h1
    cases bs with
    | nil => cases e
    | cons y ys =>
      cases e
      exact ⟨p, _, ex, .inl (.inl h1), by simp, fun m h k => by rw [minI_is h k]; exact q.here gd trivial (.int _)⟩
  · cases e
/-! ### sorted -/
def sortOk (ds : List PyData) : Bool := decide (ds.length ≤ 16777216) && ds.all pl && (ds.all fun a => ds.all fun b => W.alike a b) && ((ds.all fun d => match d with | .tuple (_ :: _) => true | _ => false) || (ds.all fun d => match d with | .tuple _ => false | .none => false | _ => true))
def pSort : PyData → Option PyData
  | .list ds => if sortOk ds then some (.list (ds.mergeSort (W.dataLe false id))) else none
  | _ => none
theorem each_reads {pins : List (Addr × Obj)} {s : Shared} {σ : L2.St} {F H : Hp} (I : Inv X pins σ H s) (sb : Sub F H) : ∀ {xs : List V} {us : List Value} {ds : List PyData}, Vals xs us → RepL (gx tb X) F xs ds → (∀ d ∈ ds, pl d = true) →
    W.EachIs (fun v d => ∃ x, RelV x v ∧ Rep (gx tb X) F x d) us ds ∧ W.EachIs (fun v d => ∃ as, Reads s.heap v (id d) as) us ds
  | _, _, _, .nil, .nil, _ => ⟨.nil, .nil⟩
  | _, _, _, .cons r rv, .cons p pr, k => by
    obtain ⟨a, b⟩ := each_reads I sb rv pr (fun d m => k d (List.mem_cons_of_mem _ m))
    have k0 := k _ (List.mem_cons_self ..)
    exact ⟨.cons ⟨_, r, p⟩ a, .cons (Dp.reads I _ _ _ (Rep.dp sb _ _ p (pl_nd k0)).1 r) b⟩
theorem each_back {g : Gx} {F : Hp} : ∀ {us : List Value} {ds : List PyData}, W.EachIs (fun v d => ∃ x, RelV x v ∧ Rep g F x d) us ds → ∃ xs, Vals xs us ∧ RepL g F xs ds
  | _, _, .nil => ⟨[], .nil, .nil⟩
  | _, _, .cons ⟨x, r, p⟩ t => by
    obtain ⟨xs, a, b⟩ := each_back t
    exact ⟨x :: xs, .cons r a, .cons p b⟩
theorem sort_go {ds : List PyData} (h : sortOk ds = true) : ds.length ≤ 16777216 ∧ (∀ d ∈ ds, pl d = true) ∧ W.AllAlike (ds.map id) ∧ W.Sortable (ds.map id) := by
  unfold sortOk at h
  simp only [Bool.and_eq_true, Bool.or_eq_true, decide_eq_true_eq, List.all_eq_true] at h
  obtain ⟨⟨⟨h1, h2⟩, h3⟩, h4⟩ := h
  refine ⟨h1, h2, by rw [List.map_id]; exact h3, ?_⟩
  rw [List.map_id]
  rcases h4 with h4 | h4
  · refine .inl fun d hd => ?_
    have := h4 d hd
    split at this
    · exact ⟨_, _, rfl⟩
    · cases this
  · refine .inr fun d hd => ?_
    have := h4 d hd
    split at this
    · cases this
    · cases this
    · rename_i n1 n2
      exact ⟨fun e => n2 e, fun xs e => n1 xs e⟩
theorem o_sorted (hr : Room k X.A) : CallR X (.builtin "sorted") (rC1 (gx tb X) (pView (gx tb X)) pSort) := by
  intro pins s σ H vs us Q I r ⟨F, x, a, d, ex, gd, pa, e, q⟩
  subst ex
  unfold pSort at e
  split at e
  · split at e
    · rename_i ds hok
      cases e
      obtain ⟨p, ws, rfl, h1, r1⟩ := pa
      obtain ⟨hl, hp, hal, hk⟩ := sort_go hok
      obtain ⟨its, rv, hls, hz⟩ := I.list (.inl (.inl h1))
      rw [Vals.ref1 r]
      obtain ⟨e1, e2⟩ := each_reads I gd.sub rv r1 hp
      have hu := hr.units
      refine W.sorted_data hls.isList e1 e2 hal hk (by rw [lim_eq]; exact hl) (fun b hb => ?_) fun out hlen ho => ?_
      · have := pl_dp (hp b hb)
        show X.A.units + 2 + b.depth < cLine
        omega
      · obtain ⟨xs, vx, rx⟩ := each_back ho
        obtain ⟨ep, he'⟩ := PyProof.Rows.sortedAll_at s.heap its out.toArray
        have hlen : xs.length ≤ sizeLine := by
          rw [vx.length, lim_eq, hlen]; exact hl
        exact ⟨.ref _, upd H (s.heap.objs.size + 1) (.lst xs), I.laid (t' := s.toks) (fun _ _ => PyProof.Rows.sortedAll_old) (Nat.le_succ _) ⟨hlen, out, ep, vx, he'⟩, rfl, q.lst gd (I.hok.fresh (Nat.le_succ _)) rx⟩
    · cases e
  · cases e
end
end Mir
namespace Mir
open PySem PySem.Spec PyProof.Rows L2
/-! ### an owned list that is frozen for an expression only -/
mutual
def noL : PyData → Bool
  | .list _ => false
  | .dict _ => false
  | .tuple ds => noLs ds
  | _ => true
def noLs : List PyData → Bool
  | [] => true
  | d :: ds => noL d && noLs ds
end
/-- no list or dict within -/
def flat (d : PyData) : Option PyData := if noL d = true then some d else none
mutual
theorem rep_noL {g : Gx} {F F' : Hp} (h : ∀ a xs, SqT g.K F a xs → SqT g.K F' a xs) : ∀ (d : PyData) (v : V), noL d = true → Rep g F v d → Rep g F' v d
  | .none, _, _, r => by cases r; exact .non
  | .bool _, _, _, r => by cases r; exact .bl _
  | .int _, _, _, r => by cases r; exact .int _
  | .str _, _, _, r => by cases r with | str _ a b => exact .str _ a b
  | .list _, _, e, _ => by simp [noL] at e
  | .dict _, _, e, _ => by simp [noL] at e
  | .tuple ds, _, e, r => by cases r with | tup h1 h2 => exact .tup (h _ _ h1) (rep_noLs h ds _ (by simpa [noL] using e) h2)
theorem rep_noLs {g : Gx} {F F' : Hp} (h : ∀ a xs, SqT g.K F a xs → SqT g.K F' a xs) : ∀ (ds : List PyData) (vs : List V), noLs ds = true → RepL g F vs ds → RepL g F' vs ds
  | [], _, _, r => by cases r; exact .nil
  | d :: ds, _, e, r => by
    cases r with
    | cons h1 h2 =>
      have e' : noL d = true ∧ noLs ds = true := by simpa [noLs] using e
      exact .cons (rep_noL h d _ e'.1 h1) (rep_noLs h ds _ e'.2 h2)
end
open Classical in
noncomputable def dropF (F : Hp) (As : List Addr) : Hp := fun a => if a ∈ As then none else F a
theorem thaw_go {F H F' H' : Hp} {Bs : List Addr} (gd : Good F H) (n : ∀ a ∈ Bs, F a = none) (w : Grow (fzn F H Bs) H F' H') : Grow F H F H' :=
  ⟨.refl _, w.keep, ⟨((fzn_sub n).trans w.sub).trans w.good.sub, gd.notb⟩, fun a h h' => absurd h h'⟩
section
variable {X : Cx} {tb : Addr → Prop} {e : Expr} {sh : List Sl} {env : List PyData} {m : Option PyData} {c : Option Bool} {i : Nat}
theorem t_thaw {t : OT} {d : PyData} (i : Nat) (h1 : sh[i]? = some (.ow t)) (h2 : env[i]? = some d) (h : PT X e (tT (gx tb X) (sh.set i .fr) env c)) : PT X e (tT (gx tb X) sh env c) :=
  h.imp fun σ H Q ⟨F, A, b, s, e, q⟩ => by
    obtain ⟨s', _⟩ := s.frz h1 h2
    exact ⟨_, _, b, s', e, fun F' H' w => q F H' (thaw_go s.good (s.fre i) w)⟩
theorem e_thaw {d : PyData} (i : Nat) (h1 : sh[i]? = some (.ow .any)) (h2 : env[i]? = some d) (h : PE X e (tE (gx tb X) (sh.set i .fr) env m)) : PE X e (tE (gx tb X) sh env (m.bind flat)) :=
  h.imp fun σ H Q ⟨F, A, b, s, e, q⟩ => by
    obtain ⟨s', _⟩ := s.frz h1 h2
    obtain ⟨d', hd, e⟩ := Option.bind_eq_some_iff.mp e
    unfold flat at e
    split at e
    · rename_i hn
      cases e
      obtain ⟨x, _, v0, _, hA, vw⟩ := s.get h1 h2
      have kind : ∀ a ∈ A i, (∃ vs, H a = some (.lst vs)) ∨ ∃ es, H a = some (dicO a es) := fun a m => by
        rw [hA] at m
        cases d with
        | list ds => obtain ⟨p, vs, rfl, hp, _⟩ := vw; rw [List.mem_singleton.mp m]; exact .inl ⟨vs, hp⟩
        | dict kvs => obtain ⟨p, es, rfl, hp, _⟩ := vw; rw [List.mem_singleton.mp m]; exact .inr ⟨es, hp⟩
        | _ => cases m
      refine ⟨_, _, _, s', hd, fun v F' H' w r => q v (dropF F' (A i)) H' ⟨fun a o e => ?_, w.keep, ⟨fun a o e => ?_, fun a ps e => ?_⟩, fun a h h' => ?_⟩ (rep_noL (fun a xs hs => ?_) _ v hn r)⟩
      · have na : a ∉ A i := fun m => by rw [s.fre i a m] at e; cases e
        unfold dropF
        rw [if_neg na]
        exact w.sub a o (fzn_sub (s.fre i) a o e)
      · unfold dropF at e
        split at e
        · cases e
        · exact w.good.sub a o e
      · unfold dropF at e
        split at e
        · cases e
        · exact w.good.notb a ps e
      · unfold dropF at h'
        split at h'
        · exact absurd rfl h'
        · rename_i na
          exact w.new a (by rw [fzn_out na]; exact h) h'
      · have ne : ∀ u, Rd F' a u → (∃ ys, u = .tup ys) → a ∉ A i := fun u hr ⟨ys, hu⟩ m => by
          subst hu
          have e1 : fzn F H (A i) a = H a := fzn_in m
          rcases kind a m with ⟨vs, hv⟩ | ⟨es, hv⟩
          · have e2 := w.sub a _ (e1.trans hv)
            rcases hr with h3 | ⟨o, h3⟩ <;> (rw [e2] at h3; cases h3)
          · have e2 := w.sub a _ (e1.trans hv)
            rcases hr with h3 | ⟨o, h3⟩ <;> (rw [e2] at h3; cases h3)
        have dr : ∀ o, a ∉ A i → F' a = some o → dropF F' (A i) a = some o := fun o na e => by unfold dropF; rw [if_neg na]; exact e
        rcases hs with hr | hk
        · have na := ne _ hr ⟨xs, rfl⟩
          exact .inl (hr.imp (dr _ na) fun ⟨o, h3⟩ => ⟨o, dr _ na h3⟩)
        · exact .inr hk
    · cases e
end
/-! ### lengths of targets -/
theorem u_nil : ∀ (ds : List PyData) (z : Unit), uNil ds = some z → ds.length = 0
  | [], _, _ => rfl
  | _ :: _, _, h => by cases h
theorem u_cons {α β : Type} {m1 : PyData → Option α} {m2 : List PyData → Option β} {n : Nat} (h : ∀ ds z, m2 ds = some z → ds.length = n) : ∀ (ds : List PyData) (z : α × β), uCons m1 m2 ds = some z → ds.length = n + 1
  | [], _, e => by cases e
  | d :: ds, z, e => by
    unfold uCons at e
    obtain ⟨a, _, e⟩ := Option.bind_eq_some_iff.mp e
    obtain ⟨b, hb, e⟩ := Option.bind_eq_some_iff.mp e
    simp [h ds b hb]
/-! ### the built-in names -/
theorem bt_len : bootBuiltins "len" = some (.builtin "len") := by decide +kernel
theorem bt_abs : bootBuiltins "abs" = some (.builtin "abs") := by decide +kernel
theorem bt_int : bootBuiltins "int" = some (.type "int") := by decide +kernel
theorem bt_str : bootBuiltins "str" = some (.type "str") := by decide +kernel
theorem bt_bool : bootBuiltins "bool" = some (.type "bool") := by decide +kernel
theorem bt_tuple : bootBuiltins "tuple" = some (.type "tuple") := by decide +kernel
theorem bt_list : bootBuiltins "list" = some (.type "list") := by decide +kernel
theorem bt_dict : bootBuiltins "dict" = some (.type "dict") := by decide +kernel
theorem bt_max : bootBuiltins "max" = some (.builtin "max") := by decide +kernel
theorem bt_min : bootBuiltins "min" = some (.builtin "min") := by decide +kernel
theorem bt_sum : bootBuiltins "sum" = some (.builtin "sum") := by decide +kernel
theorem bt_all : bootBuiltins "all" = some (.builtin "all") := by decide +kernel
theorem bt_any : bootBuiltins "any" = some (.builtin "any") := by decide +kernel
theorem bt_sorted : bootBuiltins "sorted" = some (.builtin "sorted") := by decide +kernel
/-! ### the law -/
theorem law_sp {P : Program} {w : World} {K : PySem.W.Frag} {m : PyData → Option PyData} (hm : ∀ ns : List Int, ns.length ≤ 63 → m (.list (ns.map .int)) = some (.bool true)) (H : Hp) (a : Addr) (ns : List Int) (hl : ns.length ≤ 63) (ho : Only H) (hs : SqL K H a (ns.map V.int)) :
    spD ⟨P, w, K, fun _ => False⟩ [.sc] .fr (ap1 m) [.ref a] H (fun v _ => v = .bl true) fun _ _ _ => False := by
  refine ⟨H, [.list (ns.map .int)], .bool true, ⟨.refl _, fun b ps e => ?_⟩, fun P t => t.elim, rfl, rfl, fun i s v d h1 h2 h3 => ?_, hm ns hl, fun v F' H' Bs w o _ _ => ?_⟩
  · rcases ho b with h | ⟨o, xs, h⟩ <;> (rw [h] at e; cases e)
  · cases i with
    | zero => cases h1; cases h2; cases h3; exact ⟨rfl, _, rfl, a, ns, rfl, rfl, hs⟩
    | succ i => simp at h1
  · cases o.2; rfl
theorem walkM {l : PySem.W.OpenLaw} {k : Nat} {q : Program} {loose : List Str} {XP : (Str → Option Value) → Heap → Prop} {YP : World → Heap → Prop} {d : DefRec} {K : Params → PySem.W.Frag} {m : PyData → Option PyData} (hn : l.most = some 63) (hdf : d.params.defaults = []) (hr : Room k callerA)
    (hY : ∀ (w : World) (h : Heap), YP w h → (K w.params).In h)
    (hm : ∀ ns : List Int, ns.length ≤ 63 → m (.list (ns.map .int)) = some (.bool true))
    (F : ∀ (w : World) (mg : Str → Option Value) (fa : Addr) (h : Heap), (K w.params).In h → h.Ns mainGlobals mg → mg d.name = some (.ref fa) →
      ∃ fd : FuncData, (∀ (s : Shared) (u : Value), BindsTo s fd ⟨[u], []⟩ [("script", u)]) ∧ ∀ base : Heap, (K w.params).In base → base.Ns mainGlobals mg → FnOk l.prog w (K w.params) mg base CX0 k fa fd ["script"] (spD ⟨l.prog, w, K w.params, fun _ => False⟩ [.sc] .fr (ap1 m))) :
    PySem.W.WalkO q loose XP YP l.row.toRowW d [] (fun f vs => PySem.call f vs) :=
  L2.walk_of (n := 63) (k := k) (x := "script") (CX := fun _ => CX0) (sp := fun w => spD ⟨l.prog, w, K w.params, fun _ => False⟩ [.sc] .fr (ap1 m)) hn (by decide) hdf hr hY F (fun w H a ns hl ho hs => law_sp hm H a ns hl ho hs) fun _ _ _ _ _ z => z
/-- a def that may be called -/
theorem callOk {P : Program} {w : World} {K : PySem.W.Frag} {mg : Str → Option Value} {base : Heap} {x : Str} {f : Addr} {fd : FuncData} {ps : List Str} {k : Nat} {ks : List Sl} {T : OT} {m : List PyData → Option PyData} {tb : Addr → Prop} (F : FnOk P w K mg base CX0 k f fd ps (spD ⟨P, w, K, tb⟩ ks T m))
    (h : mg x = some (.ref f)) (kp : PySem.W.keepIn K (.ref f) = true) (b : Binds K fd ps []) : CallOk ⟨P, w, K, tb⟩ mg base x k ks T m := ⟨f, fd, ps, F, h, kp, b⟩
end Mir
namespace Mir
open PySem PySem.Spec PyProof.Rows L2
/-! ### the mirror's words -/
def b2 {α : Type} (f : PyData → PyData → Option α) (m1 m2 : Option PyData) : Option α := m1.bind fun a => m2.bind fun b => f a b
def bl (c : Option Bool) : Option PyData := c.map .bool
def iteM {α : Type} (c : Option Bool) (a b : Option α) : Option α := c.bind fun t => if t = true then a else b
def tupM (ms : List (Option PyData)) : Option PyData := bindL ms fun ds => some (.tuple ds)
def lstM (ms : List (Option PyData)) : Option PyData := bindL ms fun ds => some (.list ds)
def slM (m : Option PyData) (lo hi : Option (Option Int)) : Option PyData := m.bind fun a => lo.bind fun l => hi.bind fun h => pSl a l h
def loM (m : Option PyData) : Option (Option Int) := m.bind fun d => (asInt d).map some
def lcM {δ : Type} (mi : Option (List PyData)) (mg : PyData → Option δ) (ft : δ → Option Bool) (fe : δ → Option PyData) : Option PyData :=
  mi.bind fun xs => if xs.length ≤ 16777216 then (lcS (fun d => (mg d).bind (lcT ft fe)) xs).bind fun r => some (.list r) else none
def forM' {τ ρ δ : Type} (mi : Option (List PyData)) (mg : PyData → Option δ) (fb : τ → δ → Option (Ctl τ ρ)) (t0 : τ) (k : τ → Option ρ) : Option ρ :=
  mi.bind fun xs => (forC (fun t d => (mg d).bind (fb t)) xs t0).bind (Ctl.go k)
noncomputable def whileM {τ ρ : Type} (c : τ → Option Bool) (f : τ → Option (Ctl τ ρ)) (t0 : τ) (k : τ → Option ρ) : Option ρ := (whileC c f t0).bind (Ctl.go k)
def notM (c : Option Bool) : Option Bool := c.map (!·)
section
variable {X : Cx} {tb : Addr → Prop} {ρ τ δ : Type} {st : Stmt} {rest a b : List Stmt} {e e1 e2 tg : Expr} {sh sh' shL : List Sl} {env env' : List PyData} {κ : Kont ρ} {m ma mb : Option ρ} {me m1 m2 : Option PyData} {c c1 c2 : Option Bool} {pos pos' : Pos} {i j : Nat} {x id T : String} {nx : Str} {p : Pos}
theorem x_bin {op : Operator} {f : PyData → PyData → Option PyData} (ho : OpR X (binaryOp op) (rA (gx tb X) f)) (h1 : PE X e1 (tV (gx tb X) sh env m1)) (h2 : PE X e2 (tV (gx tb X) sh env m2)) : PE X (.BinOp e1 op e2 pos) (tO (gx tb X) .any sh env (b2 f m1 m2)) := e_binA ho h1 h2
theorem x_ix (h1 : PE X e1 (tV (gx tb X) sh env m1)) (h2 : PE X e2 (tV (gx tb X) sh env m2)) (hs : PlainIx e2 := by exact fun _ _ => rfl) : PE X (.Subscript e1 e2 pos) (tE (gx tb X) sh env (b2 pIx m1 m2)) := e_ix o_ix (st_view _) h1 h2 hs
theorem x_ixS (h1 : PE X e1 (tP (gx tb X) (pScr (gx tb X)) sh env m1)) (h2 : PE X e2 (tV (gx tb X) sh env m2)) (hs : PlainIx e2 := by exact fun _ _ => rfl) : PE X (.Subscript e1 e2 pos) (tE (gx tb X) sh env (b2 pIxS m1 m2)) := e_ix o_ixS (st_scr _) h1 h2 hs
theorem x_cmp {op : CmpOp} {f : PyData → PyData → Option Bool} (ho : OpR X (compareOp op) (rB (gx tb X) (pView (gx tb X)) (pView (gx tb X)) f)) (h1 : PE X e1 (tV (gx tb X) sh env m1)) (h2 : PE X e2 (tV (gx tb X) sh env m2)) (hm : behindInMarks op e2 = false) : PE X (.Compare e1 [op] [e2] pos) (tE (gx tb X) sh env (bl (b2 f m1 m2))) := e_cmp ho (st_view _) h1 h2 hm
theorem y_cmp {op : CmpOp} {f : PyData → PyData → Option Bool} (ho : OpR X (compareOp op) (rB (gx tb X) (pView (gx tb X)) (pView (gx tb X)) f)) (h1 : PE X e1 (tV (gx tb X) sh env m1)) (h2 : PE X e2 (tV (gx tb X) sh env m2)) (hm : behindInMarks op e2 = false) : PT X (.Compare e1 [op] [e2] pos) (tT (gx tb X) sh env (b2 f m1 m2)) := t_cmp ho (st_view _) h1 h2 hm
theorem y_not (h : PT X e (tT (gx tb X) sh env c)) : PT X (.UnaryOp .Not e pos) (tT (gx tb X) sh env (notM c)) := t_not h
theorem x_if {P : Pr} (hc : PT X e (tT (gx tb X) sh env c)) (h1 : PE X e1 (tP (gx tb X) P sh env m1)) (h2 : PE X e2 (tP (gx tb X) P sh env m2)) : PE X (.IfExp e e1 e2 pos) (tP (gx tb X) P sh env (iteM c m1 m2)) := e_if hc h1 h2
theorem x_tup {es : List Expr} {Ps : List Pr} {ms : List (Option PyData)} {x1} (h : PA X es (tA (gx tb X) Ps sh env ms)) (hP : ∀ P ∈ Ps, P = pRep (gx tb X)) (hl : es.length ≤ 1000) (hn : Ps.length = es.length) : PE X (.Tuple es x1 pos) (tE (gx tb X) sh env (tupM ms)) := e_tup h hP hl hn
theorem x_lst {es : List Expr} {Ps : List Pr} {ms : List (Option PyData)} (h : PA X es (tA (gx tb X) Ps sh env ms)) (hP : ∀ P ∈ Ps, P = pRep (gx tb X)) (hl : es.length ≤ 1000) (hn : Ps.length = es.length) : PE X (.List es pos) (tO (gx tb X) .any sh env (lstM ms)) := e_lst h hP hl hn
theorem hp0 {g : Gx} : ∀ P ∈ ([] : List Pr), P = pRep g := fun _ m => nomatch m
theorem hp1 {g : Gx} {Ps : List Pr} (h : ∀ P ∈ Ps, P = pRep g) : ∀ P ∈ pRep g :: Ps, P = pRep g := fun P m => (List.mem_cons.mp m).elim id (h P)
theorem x_sl {lo hi : Option Expr} {ml mh : Option (Option Int)} {p2 : Pos} (h : PE X e (tV (gx tb X) sh env me)) (hl : PO X lo (tPa (gx tb X) sh env ml)) (hh : PO X hi (tPa (gx tb X) sh env mh)) : PE X (.Subscript e (.Slice lo hi none p2) pos) (tO (gx tb X) .any sh env (slM me ml mh)) := e_sl h hl hh
theorem x_some (h : PE X e (tE (gx tb X) sh env me)) : PO X (some e) (tPa (gx tb X) sh env (loM me)) := p_some h
theorem x_b2 {f : PyData → PyData → Option PyData} (hc : CallR X (.builtin id) (rC2 (gx tb X) f)) (hg : Gl X nx) (hm : X.mg nx = none) (hv : bootBuiltins nx = some (.builtin id)) (h1 : PE X e1 (tV (gx tb X) sh env m1)) (h2 : PE X e2 (tV (gx tb X) sh env m2)) (hn : nx ≠ "__name__" := by decide) (hdb : (nx == ("__debug__" : Str)) = false := by decide)
    (he : starEach [e1, e2] X.env = (false, eval e1 X.env) :: starEach [e2] X.env := by rfl) (he2 : starEach [e2] X.env = (false, eval e2 X.env) :: starEach [] X.env := by rfl) (hpl : (backTo pos (starEach [e2] X.env)).any (·.1) = false := by rfl) :
    PE X (.Call (.Name nx p) [e1, e2] [] pos) (tO (gx tb X) .any sh env (b2 f m1 m2)) := e_b2 hc hg hm hv h1 h2 hn hdb he he2 hpl
theorem x_rng2 (hg : Gl X "range") (hm : X.mg "range" = none) (h1 : PE X e1 (tE (gx tb X) sh env m1)) (h2 : PE X e2 (tE (gx tb X) sh env m2)) (he : starEach [e1, e2] X.env = (false, eval e1 X.env) :: starEach [e2] X.env := by rfl) (he2 : starEach [e2] X.env = (false, eval e2 X.env) :: starEach [] X.env := by rfl)
    (hs : starEach [e1, e2] X.env = [(false, eval e1 X.env), (false, eval e2 X.env)] := by rfl) (hs2 : starEach [e2] X.env = [(false, eval e2 X.env)] := by rfl) : PI X tg (.Call (.Name "range" p) [e1, e2] [] pos) (tI (gx tb X) sh env (b2 pRng2 m1 m2)) := i_rng2 hg hm h1 h2 he he2 hs hs2
theorem z_if (hc : PT X e (tT (gx tb X) sh env c)) (ha : PSs X a (tS (gx tb X) sh env κ ma)) (hb : PSs X b (tS (gx tb X) sh env κ mb)) : PS X (.If e a b pos) (tS (gx tb X) sh env κ (iteM c ma mb)) := s_if hc ha hb
theorem av0 {P : Nat → Prop} : ∀ j ∈ ([] : List Nat), P j := fun _ m => nomatch m
theorem av {P : Nat → Prop} {i : Nat} {is : List Nat} (h : P i) (k : ∀ j ∈ is, P j) : ∀ j ∈ i :: is, P j := fun j m => (List.mem_cons.mp m).elim (fun e => e ▸ h) (k j)
theorem z_for {emb : τ → List PyData} {t0 : τ} {G : List Nat} {mi : Option (List PyData)} {mg : PyData → Option δ} {eg : τ → δ → List PyData} {shb : List Sl} {fb : τ → δ → Option (Ctl τ ρ)} {k : τ → Option ρ}
    (hp : PassesOwn (model X.prog X.w) X.A X.env X.xe) (hc : X.calm = true) (w : Wk sh env shL (emb t0)) (hi : PI X tg e (tI (gx tb X) shL (emb t0) mi)) (hg : ∀ t, PG X tg (tG (gx tb X) G shL (emb t) shb mg (eg t)))
    (hb : ∀ t z, PSs X a (tS (gx tb X) shb (eg t z) (Kont.body (κ.mid shL emb k) shL emb) (fb t z)))
    (hs : ∀ y, foldedSetIterable e X.env y = pure y := by intro _; rfl) : PS X (.For tg e a [] pos) (tS (gx tb X) sh env (κ.mid shL emb k) (forM' mi mg fb t0 k)) :=
  s_forC (body := a) hp hc w rfl (fun t r h => ⟨t, rfl, h⟩) hi hg hb hs
theorem z_while {emb : τ → List PyData} {t0 : τ} {mc : τ → Option Bool} {f : τ → Option (Ctl τ ρ)} {k : τ → Option ρ} (hp : PassesOwn (model X.prog X.w) X.A X.env X.xe) (w : Wk sh env shL (emb t0))
    (hc : ∀ t, PT X e (tT (gx tb X) shL (emb t) (mc t))) (hb : ∀ t, PSs X a (tS (gx tb X) shL (emb t) (Kont.body (κ.mid shL emb k) shL emb) (f t))) : PS X (.While e a [] pos) (tS (gx tb X) sh env (κ.mid shL emb k) (whileM mc f t0 k)) :=
  s_whileC hp w rfl (fun t r h => ⟨t, rfl, h⟩) hc hb
/-- x, y = a, b stored without a tuple -/
theorem z_par {k : PyData → PyData → Option ρ} {px py pt : Pos} {kt k2 pt2} {nx ny : Str} (hc : X.calm = true) (hN : X.N.Nodup) (hi : X.N[i]? = some nx) (hj : X.N[j]? = some ny) (hij : i ≠ j) (hx : X.env.scope.names.lookup nx = some .local) (hy : X.env.scope.names.lookup ny = some .local)
    (his : i < sh.length) (hjs : j < sh.length) (ha : PA X [e1, e2] (tA (gx tb X) [pRep (gx tb X), pRep (gx tb X)] sh env [m1, m2])) (h : ∀ u v, PSs X rest (tS (gx tb X) ((sh.set i .fr).set j .fr) ((env.set i u).set j v) κ (k u v)))
    (hw : swappedStores [.Tuple [.Name nx px, .Name ny py] kt pt] (.Tuple [e1, e2] k2 pt2) X.env = pure (some [nx, ny]) := by rfl)
    (hs : swapsWithSole [.Tuple [.Name nx px, .Name ny py] kt pt] (.Tuple [e1, e2] k2 pt2) pos.line X.env = pure false := by rfl) :
    PSs X (.Assign [.Tuple [.Name nx px, .Name ny py] kt pt] (.Tuple [e1, e2] k2 pt2) pos :: rest) (tS (gx tb X) sh env κ (m1.bind fun u => m2.bind fun v => k u v)) :=
  (pss_cons (ps_par hc hN hi hj hij hx hy ha hw hs) (pss_ex fun (z : PyData × PyData) => h z.1 z.2)).imp fun Dn σ H ⟨F, A, r, s, e, q⟩ => by
    obtain ⟨u, hu, e⟩ := Option.bind_eq_some_iff.mp e
    obtain ⟨v, hv, e⟩ := Option.bind_eq_some_iff.mp e
    refine ⟨F, A, [u, v], s, by rw [hu, hv]; rfl, fun vs F1 H1 w1 rp => ?_⟩
    obtain ⟨a, b, rfl⟩ : ∃ x y, vs = [x, y] := len2 (by have := rp.1; simpa using this)
    have ra := rp.2.2 0 a u _ rfl rfl rfl
    have rb := rp.2.2 1 b v _ rfl rfl rfl
    have s1 := (s.grow w1).put_fr his ra
    have s2 := s1.put_fr (i := j) (by simpa using hjs) rb
    exact ⟨a, b, rfl, (u, v), F1, _, r, s2, e, q.step (((Evo.of w1).trans (.put (Bs := []) fun _ m => nomatch m)).trans (.put (Bs := []) fun _ m => nomatch m))⟩
/-- x, y, z = a, b, c stored without a tuple -/
theorem z_par3 {e3 : Expr} {m3 : Option PyData} {l : Nat} {k : PyData → PyData → PyData → Option ρ} {px py pz pt : Pos} {kt k2 pt2} {nx ny nz : Str} (hc : X.calm = true) (hN : X.N.Nodup) (hi : X.N[i]? = some nx) (hj : X.N[j]? = some ny) (hl : X.N[l]? = some nz) (hij : i ≠ j) (hil : i ≠ l) (hjl : j ≠ l) (hx : X.env.scope.names.lookup nx = some .local) (hy : X.env.scope.names.lookup ny = some .local) (hz : X.env.scope.names.lookup nz = some .local)
    (his : i < sh.length) (hjs : j < sh.length) (hls : l < sh.length) (ha : PA X [e1, e2, e3] (tA (gx tb X) [pRep (gx tb X), pRep (gx tb X), pRep (gx tb X)] sh env [m1, m2, m3])) (h : ∀ u v w, PSs X rest (tS (gx tb X) (((sh.set i .fr).set j .fr).set l .fr) (((env.set i u).set j v).set l w) κ (k u v w)))
    (hw : swappedStores [.Tuple [.Name nx px, .Name ny py, .Name nz pz] kt pt] (.Tuple [e1, e2, e3] k2 pt2) X.env = pure (some [nx, ny, nz]) := by rfl)
    (hs : swapsWithSole [.Tuple [.Name nx px, .Name ny py, .Name nz pz] kt pt] (.Tuple [e1, e2, e3] k2 pt2) pos.line X.env = pure false := by rfl) :
    PSs X (.Assign [.Tuple [.Name nx px, .Name ny py, .Name nz pz] kt pt] (.Tuple [e1, e2, e3] k2 pt2) pos :: rest) (tS (gx tb X) sh env κ (m1.bind fun u => m2.bind fun v => m3.bind fun w => k u v w)) :=
  (pss_cons (ps_par3 hc hN hi hj hl hij hil hjl hx hy hz ha hw hs) (pss_ex fun (z : PyData × PyData × PyData) => h z.1 z.2.1 z.2.2)).imp fun Dn σ H ⟨F, A, r, s, e, q⟩ => by
    obtain ⟨u, hu, e⟩ := Option.bind_eq_some_iff.mp e
    obtain ⟨v, hv, e⟩ := Option.bind_eq_some_iff.mp e
    obtain ⟨t, ht, e⟩ := Option.bind_eq_some_iff.mp e
    refine ⟨F, A, [u, v, t], s, by rw [hu, hv, ht]; rfl, fun vs F1 H1 w1 rp => ?_⟩
    obtain ⟨a, b, c, rfl⟩ : ∃ x y z, vs = [x, y, z] := by
      have := rp.1
      match vs, this with
      | [x, y, z], _ => exact ⟨x, y, z, rfl⟩
    have ra := rp.2.2 0 a u _ rfl rfl rfl
    have rb := rp.2.2 1 b v _ rfl rfl rfl
    have rc := rp.2.2 2 c t _ rfl rfl rfl
    have s1 := (s.grow w1).put_fr his ra
    have s2 := s1.put_fr (i := j) (by simpa using hjs) rb
    have s3 := s2.put_fr (i := l) (by simpa using hls) rc
    exact ⟨a, b, c, rfl, (u, v, t), F1, _, r, s3, e, q.step ((((Evo.of w1).trans (.put (Bs := []) fun _ m => nomatch m)).trans (.put (Bs := []) fun _ m => nomatch m)).trans (.put (Bs := []) fun _ m => nomatch m))⟩
end
section
variable {X : Cx} {tb : Addr → Prop} {e elt iter tg : Expr} {sh shB : List Sl} {env : List PyData} {G : List Nat} {δ : Type} {mi : Option (List PyData)} {mg : PyData → Option δ} {eg : δ → List PyData} {fe : δ → Option PyData} {ft : δ → Option Bool} {pos : Pos} {ifs : List Expr} {own : List (Str × Nat)} {scope : Scope}
theorem x_lc (own : List (Str × Nat)) (hc : X.calm = true) (hN : X.N.Nodup) (hi : PI X tg iter (tI (gx tb X) sh env mi)) (ok : BlkOk X.N X.env.scope scope own) (hG : ∀ j ∈ G, j ∈ own.map (·.2)) (hv : ∀ i ∈ own.map (·.2), sh[i]? = some .un ∨ sh[i]? = some .fr)
    (hg : ∀ (s : Shared) (H : Hp) (C : Addr) (cl : List (Str × Addr)) (fp : List Addr), PG (X.blk s H scope (compEnvC scope cl C X.env) fp) tg (tG (gx tb X) G (unS sh (own.map (·.2))) env shB mg eg))
    (ht : ∀ (s : Shared) (H : Hp) (C : Addr) (cl : List (Str × Addr)) (fp : List Addr), PTs (X.blk s H scope (compEnvC scope cl C X.env) fp) ifs (fun σ H Q => ∃ z, tT (gx tb X) shB (eg z) (ft z) σ H Q))
    (he : ∀ (s : Shared) (H : Hp) (C : Addr) (cl : List (Str × Addr)) (fp : List Addr) z, PE (X.blk s H scope (compEnvC scope cl C X.env) fp) elt (tE (gx tb X) shB (eg z) (fe z))) (hs : ∀ x, foldedSetIterable iter X.env x = pure x := by intro _; rfl) :
    PE X (.ListComp elt [⟨tg, iter, ifs, 0⟩] scope pos) (tO (gx tb X) .any sh env (lcM mi mg ft fe)) := e_lc hc hN hi ok hG hv hg ht he hs
theorem z_lcO {ρ : Type} {κ : Kont ρ} {rest : List Stmt} {k : PyData → Option ρ} {i : Nat} {y : Str} {py spos : Pos} (own : List (Str × Nat)) (hc : X.calm = true) (hN : X.N.Nodup) (hy : X.N[i]? = some y) (hyl : X.env.scope.names.lookup y = some .local) (hil : i < sh.length)
    (hsw : swapsWith (.ListComp elt [⟨tg, iter, ifs, 0⟩] scope pos) (some (.Name y py)) spos.line X.env = pure true) (hi : PI X tg iter (tI (gx tb X) sh env mi)) (ok : BlkOk X.N X.env.scope scope own) (hG : ∀ j ∈ G, j ∈ own.map (·.2)) (hv : ∀ i ∈ own.map (·.2), sh[i]? = some .un ∨ sh[i]? = some .fr)
    (hg : ∀ (s : Shared) (H : Hp) (C : Addr) (cl : List (Str × Addr)) (fp : List Addr), PG (X.blk s H scope (compEnvC scope cl C X.env) fp) tg (tG (gx tb X) G (unS sh (own.map (·.2))) env shB mg eg))
    (ht : ∀ (s : Shared) (H : Hp) (C : Addr) (cl : List (Str × Addr)) (fp : List Addr), PTs (X.blk s H scope (compEnvC scope cl C X.env) fp) ifs (fun σ H Q => ∃ z, tT (gx tb X) shB (eg z) (ft z) σ H Q))
    (he : ∀ (s : Shared) (H : Hp) (C : Addr) (cl : List (Str × Addr)) (fp : List Addr) z, PE (X.blk s H scope (compEnvC scope cl C X.env) fp) elt (tE (gx tb X) shB (eg z) (fe z)))
    (h : ∀ d, PSs X rest (tS (gx tb X) (sh.set i (.ow .any)) (env.set i d) κ (k d))) (hs : ∀ x, foldedSetIterable iter X.env x = pure x := by intro _; rfl) :
    PSs X (.Assign [.Name y py] (.ListComp elt [⟨tg, iter, ifs, 0⟩] scope pos) spos :: rest) (tS (gx tb X) sh env κ ((lcM mi mg ft fe).bind k)) := s_lcO hc hN hy hyl hil hsw hi ok hG hv hg ht he h hs
end
end Mir
namespace Mir
open PySem PySem.Spec PyProof.Rows L2
theorem len3 {α : Type} {l : List α} (h : l.length = 3) : ∃ a b c, l = [a, b, c] := by
  match l, h with
  | [a, b, c], _ => exact ⟨a, b, c, rfl⟩
theorem len4 {α : Type} {l : List α} (h : l.length = 4) : ∃ a b c d, l = [a, b, c, d] := by
  match l, h with
  | [a, b, c, d], _ => exact ⟨a, b, c, d, rfl⟩
theorem len5 {α : Type} {l : List α} (h : l.length = 5) : ∃ a b c d e, l = [a, b, c, d, e] := by
  match l, h with
  | [a, b, c, d, e], _ => exact ⟨a, b, c, d, e, rfl⟩
theorem len6 {α : Type} {l : List α} (h : l.length = 6) : ∃ a b c d e f, l = [a, b, c, d, e, f] := by
  match l, h with
  | [a, b, c, d, e, f], _ => exact ⟨a, b, c, d, e, f, rfl⟩
def pItm : PyData → Option (List PyData)
  | .list ds => some ds
  | .tuple ds => some ds
  | .str z => some (z.cps.toList.map fun c => .str ⟨#[c]⟩)
  | _ => none
def notV (m : Option PyData) : Option PyData := m.bind fun d => (truth d).map fun b => .bool (!b)
section
variable {X : Cx} {tb : Addr → Prop} {e tg : Expr} {sh : List Sl} {env : List PyData} {me : Option PyData} {pos : Pos}
theorem i_any (h : PE X e (tE (gx tb X) sh env me)) : PI X tg e (tI (gx tb X) sh env (me.bind pItm)) := by
  refine ⟨fun pins s σ H R I ⟨F, A, xs, s0, e, q⟩ => ?_⟩
  obtain ⟨d, hd, e⟩ := Option.bind_eq_some_iff.mp e
  unfold pItm at e
  split at e
  · cases e
    exact (i_seq h).run pins s σ H R I ⟨F, A, _, s0, by rw [hd]; rfl, q⟩
  · cases e
    exact (i_seq h).run pins s σ H R I ⟨F, A, _, s0, by rw [hd]; rfl, q⟩
  · cases e
    exact (i_sgs h).run pins s σ H R I ⟨F, A, _, s0, by rw [hd]; rfl, q⟩
  · cases e
theorem z_ret {ρ : Type} {κ : Kont ρ} {k : PyData → Option ρ} (hr : κ.rT = .fr) (he : PE X e (tE (gx tb X) sh env me)) (hk : ∀ d r, k d = some r → κ.rt d r) : PS X (.Return (some e) pos) (tS (gx tb X) sh env κ (me.bind k)) := s_ret k hr hk he
theorem x_not (h : PE X e (tE (gx tb X) sh env me)) : PE X (.UnaryOp .Not e pos) (tE (gx tb X) sh env (notV me)) := e_not h
end
end Mir
namespace Mir
open PySem PySem.Spec PyProof.Rows L2
/-! ### the mirrors' words, computed -/
section
variable {α τ ρ δ : Type}
@[simp] theorem b2_ss (f : PyData → PyData → Option α) (a b : PyData) : b2 f (some a) (some b) = f a b := rfl
@[simp] theorem bl_s (b : Bool) : bl (some b) = some (.bool b) := rfl
@[simp] theorem iteM_s (b : Bool) (x y : Option α) : iteM (some b) x y = if b = true then x else y := rfl
@[simp] theorem jn_s (k : τ → Option ρ) (f : (τ → Option ρ) → Option ρ) : jn k f = f k := rfl
@[simp] theorem bindL_n (k : List PyData → Option α) : bindL [] k = k [] := rfl
@[simp] theorem bindL_c (a : PyData) (ms : List (Option PyData)) (k : List PyData → Option α) : bindL (some a :: ms) k = bindL ms fun ds => k (a :: ds) := rfl
@[simp] theorem tupM_e (ms : List (Option PyData)) : tupM ms = bindL ms fun ds => some (.tuple ds) := rfl
@[simp] theorem lstM_e (ms : List (Option PyData)) : lstM ms = bindL ms fun ds => some (.list ds) := rfl
@[simp] theorem ap1_e (m : PyData → Option PyData) (a : PyData) : ap1 m [a] = m a := rfl
@[simp] theorem ap2_e (m : PyData → PyData → Option PyData) (a b : PyData) : ap2 m [a, b] = m a b := rfl
@[simp] theorem ap3_e (m : PyData → PyData → PyData → Option PyData) (a b c : PyData) : ap3 m [a, b, c] = m a b c := rfl
@[simp] theorem ap4_e (m : PyData → PyData → PyData → PyData → Option PyData) (a b c d : PyData) : ap4 m [a, b, c, d] = m a b c d := rfl
@[simp] theorem ap5_e (m : PyData → PyData → PyData → PyData → PyData → Option PyData) (a b c d e : PyData) : ap5 m [a, b, c, d, e] = m a b c d e := rfl
@[simp] theorem ap6_e (m : PyData → PyData → PyData → PyData → PyData → PyData → Option PyData) (a b c d e f : PyData) : ap6 m [a, b, c, d, e, f] = m a b c d e f := rfl
@[simp] theorem slM_s (a : PyData) (l h : Option Int) : slM (some a) (some l) (some h) = pSl a l h := rfl
@[simp] theorem loM_s (i : Int) : loM (some (.int i)) = some (some i) := rfl
@[simp] theorem notM_s (b : Bool) : notM (some b) = some (!b) := rfl
@[simp] theorem bAnd_s (a : Bool) (c : Option Bool) : bAnd (some a) c = if a = true then c else some false := rfl
@[simp] theorem bOr_s (a : Bool) (c : Option Bool) : bOr (some a) c = if a = true then some true else c := rfl
@[simp] theorem vAnd_s (a : PyData) (c : Option PyData) : vAnd (some a) c = (truth a).bind fun t => if t = true then c else some a := rfl
@[simp] theorem vOr_s (a : PyData) (c : Option PyData) : vOr (some a) c = (truth a).bind fun t => if t = true then some a else c := rfl
@[simp] theorem notV_s (a : PyData) : notV (some a) = (truth a).map fun b => .bool (!b) := rfl
@[simp] theorem uTup_e (m : List PyData → Option α) (ds : List PyData) : uTup m (.tuple ds) = m ds := rfl
@[simp] theorem uNil_e : uNil [] = some () := rfl
@[simp] theorem uCons_e {β : Type} (m1 : PyData → Option α) (m2 : List PyData → Option β) (d : PyData) (ds : List PyData) : uCons m1 m2 (d :: ds) = (m1 d).bind fun a => (m2 ds).bind fun b => some (a, b) := rfl
@[simp] theorem go_nx (k : τ → Option ρ) (t : τ) : Ctl.go k (.nx t) = k t := rfl
@[simp] theorem go_bk (k : τ → Option ρ) (t : τ) : Ctl.go k (.bk t) = k t := rfl
@[simp] theorem go_rt (k : τ → Option ρ) (r : ρ) : Ctl.go k (.rt r) = some r := rfl
@[simp] theorem truth_b (b : Bool) : truth (.bool b) = some b := rfl
@[simp] theorem truth_i (i : Int) : truth (.int i) = some (i != 0) := rfl
@[simp] theorem pInt_i (i : Int) : pInt (.int i) = some (.int i) := rfl
@[simp] theorem pAbs_i (i : Int) : pAbs (.int i) = some (.int (if i < 0 then -i else i)) := rfl
@[simp] theorem pNeg_i (i : Int) : pNeg (.int i) = some (.int (-i)) := rfl
@[simp] theorem pAdd_i (a b : Int) : pAdd (.int a) (.int b) = some (.int (a + b)) := rfl
@[simp] theorem pSub_i (a b : Int) : pSub (.int a) (.int b) = some (.int (a - b)) := rfl
@[simp] theorem pTup_l (ds : List PyData) : pTup (.list ds) = some (.tuple ds) := rfl
@[simp] theorem pTup_t (ds : List PyData) : pTup (.tuple ds) = some (.tuple ds) := rfl
@[simp] theorem pList_l (ds : List PyData) : pList (.list ds) = some (.list ds) := rfl
@[simp] theorem pList_t (ds : List PyData) : pList (.tuple ds) = some (.list ds) := rfl
@[simp] theorem pLen_l (ds : List PyData) : pLen (.list ds) = some (.int ds.length) := rfl
@[simp] theorem pLen_t (ds : List PyData) : pLen (.tuple ds) = some (.int ds.length) := rfl
@[simp] theorem pLen_s (z : Str) : pLen (.str z) = some (.int z.length) := rfl
@[simp] theorem pItm_l (ds : List PyData) : pItm (.list ds) = some ds := rfl
@[simp] theorem pItm_t (ds : List PyData) : pItm (.tuple ds) = some ds := rfl
abbrev sgn (c : Nat) : PyData := .str ⟨#[c]⟩
@[simp] theorem pItm_s (z : Str) : pItm (.str z) = some (z.cps.toList.map sgn) := rfl
@[simp] theorem pIx_l (ds : List PyData) (i : Int) : pIx (.list ds) (.int i) = atI ds i := rfl
@[simp] theorem pIx_t (ds : List PyData) (i : Int) : pIx (.tuple ds) (.int i) = atI ds i := rfl
@[simp] theorem pIxS_l (ds : List PyData) (i : Int) : pIxS (.list ds) (.int i) = atI ds i := rfl
@[simp] theorem isi_ss (z : Str) : pIsi "str" (.str z) = some (.bool true) := by rfl
@[simp] theorem isi_tt (ds : List PyData) : pIsi "tuple" (.tuple ds) = some (.bool true) := by rfl
@[simp] theorem isi_bb (b : Bool) : pIsi "bool" (.bool b) = some (.bool true) := by rfl
@[simp] theorem isi_ii (i : Int) : pIsi "int" (.int i) = some (.bool true) := by rfl
@[simp] theorem isi_bi (i : Int) : pIsi "bool" (.int i) = some (.bool false) := by rfl
theorem mul_r {a b : Int} (h1 : -(2 ^ 64) < b) (h2 : b < 2 ^ 64) : pMul (.int a) (.int b) = some (.int (a * b)) := by
  have h : (small64b a || small64b b) = true := by
    unfold small64b; simp only [Bool.or_eq_true, Bool.and_eq_true, decide_eq_true_eq]; exact .inr ⟨h1, h2⟩
  exact if_pos h
theorem mul_l {a b : Int} (h1 : -(2 ^ 64) < a) (h2 : a < 2 ^ 64) : pMul (.int a) (.int b) = some (.int (a * b)) := by
  have h : (small64b a || small64b b) = true := by
    unfold small64b; simp only [Bool.or_eq_true, Bool.and_eq_true, decide_eq_true_eq]; exact .inl ⟨h1, h2⟩
  exact if_pos h
theorem fdiv_i {a b : Int} (h1 : 0 < b) (h2 : b < 1073741824) : pFdiv (.int a) (.int b) = some (.int (a / b)) := if_pos ⟨h1, h2⟩
theorem mod_i {a b : Int} (h1 : 0 < b) : pMod (.int a) (.int b) = some (.int (a % b)) := if_pos h1
/-! ### places -/
theorem at_nat {α : Type} (xs : List α) (i : Nat) (x : α) (h : xs[i]? = some x) : atI xs (i : Int) = some x := L2.atI_nat h
theorem at_int {α : Type} {xs : List α} {i : Int} (h0 : 0 ≤ i) (h : i < xs.length) : atI xs i = some (xs[i.toNat]'(by omega)) := by
  have e : i = (i.toNat : Int) := by omega
  conv => lhs; rw [e]
  exact at_nat _ _ _ (List.getElem?_eq_getElem _)
theorem at_0 {α : Type} (x : α) (xs : List α) : atI (x :: xs) 0 = some x := at_nat (x :: xs) 0 x rfl
/-! ### loops and comprehensions -/
theorem for_inv {f : τ → PyData → Option (Ctl τ ρ)} (I : Nat → τ → Prop) : ∀ (xs : List PyData) (t0 : τ) (j : Nat), I j t0 → (∀ i t x, xs[i]? = some x → I (j + i) t → ∃ t', f t x = some (.nx t') ∧ I (j + i + 1) t') → ∃ t, forC f xs t0 = some (.nx t) ∧ I (j + xs.length) t
  | [], t0, j, h0, _ => ⟨t0, rfl, h0⟩
  | x :: xs, t0, j, h0, hs => by
    obtain ⟨t', h1, h2⟩ := hs 0 t0 x rfl h0
    obtain ⟨t, h3, h4⟩ := for_inv (f := f) I xs t' (j + 1) h2 fun i t y hy hI => by
      have e : j + 1 + i = j + (i + 1) := by omega
      rw [e] at hI ⊢
      exact hs (i + 1) t y (by simpa using hy) hI
    refine ⟨t, ?_, ?_⟩
    · unfold forC; rw [h1]; exact h3
    · rw [List.length_cons, show j + (xs.length + 1) = j + 1 + xs.length by omega]; exact h4
theorem for_list {f : τ → PyData → Option (Ctl τ ρ)} (I : Nat → τ → Prop) (xs : List PyData) (t0 : τ) (h0 : I 0 t0) (hs : ∀ i t x, xs[i]? = some x → I i t → ∃ t', f t x = some (.nx t') ∧ I (i + 1) t') : ∃ t, forC f xs t0 = some (.nx t) ∧ I xs.length t := by
  have h := for_inv (f := f) I xs t0 0 h0 fun i t x hx hI => by
    rw [Nat.zero_add] at hI ⊢; exact hs i t x hx hI
  rwa [Nat.zero_add] at h
theorem for_rng {f : τ → PyData → Option (Ctl τ ρ)} (I : Nat → τ → Prop) (n : Nat) (t0 : τ) (h0 : I 0 t0) (hs : ∀ (i : Nat) t, i < n → I i t → ∃ t', f t (.int i) = some (.nx t') ∧ I (i + 1) t') : ∃ t, forC f (rngI 0 n) t0 = some (.nx t) ∧ I n t := by
  have h := for_list (f := f) I (rngI 0 n) t0 h0 fun i t x hx hI => by
    have hi : i < n := by have := (List.getElem?_eq_some_iff.mp hx).1; rwa [rngI_len] at this
    rw [rngI_at hi] at hx
    obtain rfl := (Option.some.inj hx).symm
    rw [Int.zero_add]
    exact hs i t hi hI
  rwa [rngI_len] at h
theorem rng1 {n : Int} (h0 : 0 ≤ n) (h : n < 2 ^ 62) : pRng1 (.int n) = some (rngI 0 n.toNat) := by
  exact if_pos ⟨by omega, h⟩
theorem rng1n {n : Nat} (h : n < 2 ^ 62) : pRng1 (.int (n : Int)) = some (rngI 0 n) := by
  rw [rng1 (by omega) (by omega)]; rfl
@[simp] theorem forM_s (xs : List PyData) (mg : PyData → Option δ) (fb : τ → δ → Option (Ctl τ ρ)) (t0 : τ) (k : τ → Option ρ) : forM' (some xs) mg fb t0 k = (forC (fun t d => (mg d).bind (fb t)) xs t0).bind (Ctl.go k) := rfl
theorem lcS_map {f : PyData → Option (Option PyData)} (g : PyData → PyData) : ∀ (xs : List PyData), (∀ x ∈ xs, f x = some (some (g x))) → lcS f xs = some (xs.map g)
  | [], _ => rfl
  | x :: xs, h => by
    unfold lcS
    rw [h x (by simp), lcS_map g xs fun y m => h y (by simp [m])]; rfl
theorem lc_all {mg : PyData → Option δ} {fe : δ → Option PyData} (g : PyData → PyData) {xs : List PyData} (hl : xs.length ≤ 16777216) (h : ∀ x ∈ xs, (mg x).bind fe = some (g x)) : lcM (some xs) mg (fun _ => some true) fe = some (.list (xs.map g)) := by
  unfold lcM
  rw [Option.bind_some, if_pos hl, lcS_map g]
  · rfl
  · intro x hx
    have := h x hx
    obtain ⟨z, h1, h2⟩ := Option.bind_eq_some_iff.mp this
    rw [h1, Option.bind_some]
    unfold lcT
    simp [h2]
theorem lcS_ex {f : PyData → Option (Option PyData)} (P : Nat → PyData → Prop) : ∀ (xs : List PyData) (j : Nat), (∀ i x, xs[i]? = some x → ∃ y, f x = some (some y) ∧ P (j + i) y) → ∃ ys, lcS f xs = some ys ∧ ys.length = xs.length ∧ ∀ i y, ys[i]? = some y → P (j + i) y
  | [], j, _ => ⟨[], rfl, rfl, fun i y h => by simp at h⟩
  | x :: xs, j, h => by
    obtain ⟨y, h1, h2⟩ := h 0 x rfl
    obtain ⟨ys, h3, h4, h5⟩ := lcS_ex P xs (j + 1) fun i z hz => by
      obtain ⟨y, a, b⟩ := h (i + 1) z (by simpa using hz)
      exact ⟨y, a, by rw [show j + 1 + i = j + (i + 1) by omega]; exact b⟩
    refine ⟨y :: ys, ?_, by simp [h4], fun i z hz => ?_⟩
    · unfold lcS; rw [h1, h3]; rfl
    · cases i with
      | zero => simp at hz; subst hz; exact h2
      | succ i => rw [show j + (i + 1) = j + 1 + i by omega]; exact h5 i z (by simpa using hz)
theorem lc_ex {mg : PyData → Option δ} {fe : δ → Option PyData} (P : Nat → PyData → Prop) {xs : List PyData} (hl : xs.length ≤ 16777216) (h : ∀ i x, xs[i]? = some x → ∃ y, (mg x).bind fe = some y ∧ P i y) : ∃ ys, lcM (some xs) mg (fun _ => some true) fe = some (.list ys) ∧ ys.length = xs.length ∧ ∀ i y, ys[i]? = some y → P i y := by
  obtain ⟨ys, h1, h2, h3⟩ := lcS_ex (f := fun d => (mg d).bind (lcT (fun _ => some true) fe)) P xs 0 fun i x hx => by
    obtain ⟨y, a, b⟩ := h i x hx
    obtain ⟨z, c, d⟩ := Option.bind_eq_some_iff.mp a
    refine ⟨y, ?_, by rw [Nat.zero_add]; exact b⟩
    simp only [c, Option.bind_some]
    unfold lcT
    simp [d]
  refine ⟨ys, ?_, h2, fun i y hy => by have := h3 i y hy; rwa [Nat.zero_add] at this⟩
  unfold lcM
  rw [Option.bind_some, if_pos hl, h1]; rfl
theorem lc_rng {mg : PyData → Option δ} {fe : δ → Option PyData} (P : Nat → PyData → Prop) {n : Nat} (hl : n ≤ 16777216) (h : ∀ i : Nat, i < n → ∃ y, (mg (.int i)).bind fe = some y ∧ P i y) : ∃ ys, lcM (some (rngI 0 n)) mg (fun _ => some true) fe = some (.list ys) ∧ ys.length = n ∧ ∀ i y, ys[i]? = some y → P i y := by
  obtain ⟨ys, h1, h2, h3⟩ := lc_ex (mg := mg) (fe := fe) P (xs := rngI 0 n) (by rw [rngI_len]; exact hl) fun i x hx => by
    have hi : i < n := by have := (List.getElem?_eq_some_iff.mp hx).1; rwa [rngI_len] at this
    rw [rngI_at hi] at hx
    obtain rfl := (Option.some.inj hx).symm
    rw [Int.zero_add]
    exact h i hi
  exact ⟨ys, h1, by rw [h2, rngI_len], h3⟩
/-! ### all, any -/
theorem asBs_map (bs : List Bool) : asBs (bs.map .bool) = some bs := by
  induction bs with
  | nil => rfl
  | cons b bs ih => show (asBs (bs.map .bool)).map (b :: ·) = _; rw [ih]; rfl
theorem asIs_map (bs : List Int) : asIs (bs.map .int) = some bs := by
  induction bs with
  | nil => rfl
  | cons b bs ih => show (asIs (bs.map .int)).map (b :: ·) = _; rw [ih]; rfl
theorem all_true {ds : List PyData} (h : ∀ d ∈ ds, d = .bool true) : pAll (.list ds) = some (.bool true) := by
  have e : ds = (List.replicate ds.length true).map .bool := by
    rw [List.map_replicate]
    exact List.eq_replicate_iff.mpr ⟨rfl, h⟩
  rw [e]
  show (asBs _).map _ = _
  rw [asBs_map]
  simp
/-! ### comparisons -/
@[simp] theorem pl_i (i : Int) : pl (.int i) = true := by simp [pl, PyData.hasDict, PyData.depth]
@[simp] theorem pl_s (z : Str) : pl (.str z) = true := by simp [pl, PyData.hasDict, PyData.depth]
@[simp] theorem pl_n : pl .none = true := by simp [pl, PyData.hasDict, PyData.depth]
@[simp] theorem pl_b (b : Bool) : pl (.bool b) = true := by simp [pl, PyData.hasDict, PyData.depth]
@[simp] theorem eqv_i (a b : Int) : PyData.eqv (.int a) (.int b) = decide (a = b) := by simp [PyData.eqv]; rfl
@[simp] theorem eqv_s (a b : Str) : PyData.eqv (.str a) (.str b) = decide (a = b) := by simp [PyData.eqv]; rfl
@[simp] theorem cEq_i (a b : Int) : cEq (.int a) (.int b) = some (decide (a = b)) := by simp [cEq]
@[simp] theorem cNe_i (a b : Int) : cNe (.int a) (.int b) = some (!decide (a = b)) := by simp [cNe]
@[simp] theorem cEq_s (a b : Str) : cEq (.str a) (.str b) = some (decide (a = b)) := by simp [cEq]
@[simp] theorem cNe_s (a b : Str) : cNe (.str a) (.str b) = some (!decide (a = b)) := by simp [cNe]
theorem ok_ints (a b : Int) : cOk (.int a) (.int b) = true := by simp [cOk, W.alike]
theorem lt_ints (a b : Int) : W.dataLt (.int a) (.int b) = decide (a < b) := by
  have := W.not_lt_int b a
  have h2 : (W.dataLe false (fun b : Int => .int b)) b a = decide (b ≤ a) := by rw [W.dataLe_int (fun b : Int => b)]
  rw [W.dataLe_eq] at h2
  simp only [cond_false] at h2
  have h3 : (!W.dataLt (.int a) (.int b)) = decide (b ≤ a) := h2
  by_cases h : a < b
  · rw [decide_eq_true h]
    rw [decide_eq_false (by omega)] at h3
    simpa using h3
  · rw [decide_eq_false h]
    rw [decide_eq_true (by omega)] at h3
    simpa using h3
@[simp] theorem cLt_i (a b : Int) : cLt (.int a) (.int b) = some (decide (a < b)) := by unfold cLt; rw [if_pos (ok_ints a b), lt_ints]
@[simp] theorem cGt_i (a b : Int) : cGt (.int a) (.int b) = some (decide (b < a)) := by unfold cGt; rw [if_pos (ok_ints a b), lt_ints]
@[simp] theorem cLe_i (a b : Int) : cLe (.int a) (.int b) = some (decide (a ≤ b)) := by
  unfold cLe; rw [if_pos (ok_ints a b), lt_ints]
  congr 1
  by_cases h : b < a
  · rw [decide_eq_true h, decide_eq_false (by omega)]; rfl
  · rw [decide_eq_false h, decide_eq_true (by omega)]; rfl
@[simp] theorem cGe_i (a b : Int) : cGe (.int a) (.int b) = some (decide (b ≤ a)) := by
  unfold cGe; rw [if_pos (ok_ints a b), lt_ints]
  congr 1
  by_cases h : a < b
  · rw [decide_eq_true h, decide_eq_false (by omega)]; rfl
  · rw [decide_eq_false h, decide_eq_true (by omega)]; rfl
@[simp] theorem cIn_sg (c : Nat) (z : Str) : cIn (sgn c) (.str z) = some (decide (c ∈ z.cps.toList)) := rfl
theorem eqv_refl' : ∀ d : PyData, d.hasDict = false → PyData.eqv d d = true := by
  intro d h
  have hk : (∀ d : PyData, d.hasDict = false → PyData.eqv d d = true) ∧ (∀ ds : List PyData, PyData.hasDictAll ds = false → PyData.eqvAll ds ds = true) := by
    have h1 : ∀ n, (∀ d : PyData, sizeOf d < n → d.hasDict = false → PyData.eqv d d = true) ∧ (∀ ds : List PyData, sizeOf ds < n → PyData.hasDictAll ds = false → PyData.eqvAll ds ds = true) := by
      intro n
      induction n with
      | zero => exact ⟨fun _ h => absurd h (by omega), fun _ h => absurd h (by omega)⟩
      | succ n ih =>
        refine ⟨fun d hd h => ?_, fun ds hd h => ?_⟩
        · cases d with
          | none => rfl
          | bool b => simp [PyData.eqv]
          | int b => simp
          | str b => simp
          | list ds => simp only [PyData.eqv]; exact ih.2 ds (by simp at hd; omega) (by simpa [PyData.hasDict] using h)
          | tuple ds => simp only [PyData.eqv]; exact ih.2 ds (by simp at hd; omega) (by simpa [PyData.hasDict] using h)
          | dict _ => simp [PyData.hasDict] at h
        · cases ds with
          | nil => rfl
          | cons d ds =>
            have h' : d.hasDict = false ∧ PyData.hasDictAll ds = false := by simpa [PyData.hasDictAll] using h
            simp only [PyData.eqvAll]
            rw [ih.1 d (by simp at hd; omega) h'.1, ih.2 ds (by simp at hd; omega) h'.2]; rfl
    exact ⟨fun d h => (h1 (sizeOf d + 1)).1 d (by omega) h, fun ds h => (h1 (sizeOf ds + 1)).2 ds (by omega) h⟩
  exact hk.1 d h
theorem cEq_self {d : PyData} (h : pl d = true) : cEq d d = some true := by unfold cEq; rw [h, eqv_refl' d (pl_nd h)]; rfl
theorem cNe_self {d : PyData} (h : pl d = true) : cNe d d = some false := by unfold cNe; rw [h, eqv_refl' d (pl_nd h)]; rfl
/-! ### texts -/
def IsRun (z : Str) : Prop := ∀ c ∈ z.cps.toList, 97 ≤ c ∧ c ≤ 122
def abc : Str := "abcdefghijklmnopqrstuvwxyz"
theorem abc_mem {c : Nat} : c ∈ abc.cps.toList ↔ 97 ≤ c ∧ c ≤ 122 := by
  have e : abc.cps.toList = [97,98,99,100,101,102,103,104,105,106,107,108,109,110,111,112,113,114,115,116,117,118,119,120,121,122] := by decide +kernel
  rw [e]
  constructor
  · intro h; simp at h; omega
  · intro ⟨h1, h2⟩; simp; omega
theorem run_app {a b : Str} (ha : IsRun a) (hb : IsRun b) : IsRun (a ++ b) := fun c m => by
  have e : (a ++ b).cps.toList = a.cps.toList ++ b.cps.toList := by
    show (a.cps ++ b.cps).toList = _
    simp
  rw [e] at m
  rcases List.mem_append.mp m with m | m
  · exact ha c m
  · exact hb c m
theorem add_s {a b : Str} (h : a.length + b.length ≤ 16777216) : pAdd (.str a) (.str b) = some (.str (a ++ b)) := if_pos h
end
end Mir
namespace Mir
open PySem PySem.Spec PyProof.Rows L2
theorem mem_app {a b : Str} {c : Nat} (m : c ∈ (a ++ b).cps.toList) : c ∈ a.cps.toList ∨ c ∈ b.cps.toList := by
  have e : (a ++ b).cps.toList = a.cps.toList ++ b.cps.toList := by
    show (a.cps ++ b.cps).toList = _
    simp
  rw [e] at m
  exact List.mem_append.mp m
theorem sort_perm {ds : List PyData} : (ds.mergeSort (W.dataLe false id)).Perm ds := List.mergeSort_perm ds _
theorem sgns_of : ∀ {ys : List PyData}, (∀ y ∈ ys, ∃ c : Nat, y = sgn c) → ∃ ls : List Nat, ys = ls.map sgn
  | [], _ => ⟨[], rfl⟩
  | y :: ys, h => by
    obtain ⟨c, rfl⟩ := h y (by simp)
    obtain ⟨ls, rfl⟩ := sgns_of fun y m => h y (List.mem_cons_of_mem _ m)
    exact ⟨c :: ls, rfl⟩
theorem sort_strs_ok {ys : List PyData} (hl : ys.length ≤ 16777216) (h : ∀ y ∈ ys, ∃ z : Str, y = .str z) : sortOk ys = true := by
  unfold sortOk
  simp only [Bool.and_eq_true, Bool.or_eq_true, decide_eq_true_eq, List.all_eq_true]
  refine ⟨⟨⟨hl, fun y hy => ?_⟩, fun y hy x hx => ?_⟩, .inr fun y hy => ?_⟩
  · obtain ⟨z, rfl⟩ := h y hy; simp
  · obtain ⟨z, rfl⟩ := h y hy; obtain ⟨z', rfl⟩ := h x hx; simp [W.alike]
  · obtain ⟨z, rfl⟩ := h y hy; rfl
theorem sort_sgn {ys : List PyData} (hl : ys.length ≤ 16777216) (h : ∀ y ∈ ys, ∃ c : Nat, y = sgn c) : ∃ ls : List Nat, pSort (.list ys) = some (.list (ls.map sgn)) ∧ ls.length = ys.length ∧ ∀ c ∈ ls, sgn c ∈ ys := by
  have hp := sort_perm (ds := ys)
  obtain ⟨ls, e⟩ := sgns_of (ys := ys.mergeSort (W.dataLe false id)) fun y hy => h y (hp.mem_iff.mp hy)
  refine ⟨ls, ?_, ?_, fun c hc => ?_⟩
  · rw [← e]; exact if_pos (sort_strs_ok hl fun y hy => (h y hy).imp' _ fun c e => e)
  · have := hp.length_eq; rw [e, List.length_map] at this; exact this
  · apply hp.mem_iff.mp; rw [e]; exact List.mem_map_of_mem hc
end Mir
namespace Mir
open PySem PySem.Spec PyProof.Rows L2
/-! ### what a mirror answers -/
def Sat {α : Type} (m : Option α) (P : α → Prop) : Prop := ∃ a, m = some a ∧ P a
section
variable {α β τ ρ δ : Type} {m : Option α} {P Q : α → Prop}
theorem Sat.eq {r : α} (h : Sat m (· = r)) : m = some r := by obtain ⟨a, h1, rfl⟩ := h; exact h1
theorem Sat.of {r : α} (h : m = some r) (p : P r) : Sat m P := ⟨r, h, p⟩
theorem Sat.imp (h : Sat m P) (k : ∀ a, P a → Q a) : Sat m Q := let ⟨a, h1, h2⟩ := h; ⟨a, h1, k a h2⟩
theorem sat_some {a : α} (h : P a) : Sat (some a) P := ⟨a, rfl, h⟩
theorem sat_bind {m : Option β} {k : β → Option α} (h : Sat m fun a => Sat (k a) P) : Sat (m.bind k) P := by
  obtain ⟨a, rfl, h⟩ := h; exact h
/-- a step whose answer is known -/
theorem sat_to {m : Option β} {k : β → Option α} {a : β} (h : m = some a) (q : Sat (k a) P) : Sat (m.bind k) P := by rw [h]; exact q
theorem sat_ite {b : Bool} {x y : Option α} (h1 : b = true → Sat x P) (h2 : b = false → Sat y P) : Sat (iteM (some b) x y) P := by
  cases b
  · exact h2 rfl
  · exact h1 rfl
theorem sat_if {c : Option Bool} {x y : Option α} (h : Sat c fun b => if b = true then Sat x P else Sat y P) : Sat (iteM c x y) P := by
  obtain ⟨b, rfl, h⟩ := h
  cases b
  · exact h
  · exact h
theorem sat_jn {k : τ → Option ρ} {f : (τ → Option ρ) → Option ρ} {P : ρ → Prop} (I : τ → Prop) (hk : ∀ t, I t → Sat (k t) P) (hf : ∀ k', (∀ t, I t → Sat (k' t) P) → Sat (f k') P) : Sat (jn k f) P := hf k hk
theorem sat_jn' {k : τ → Option ρ} {f : (τ → Option ρ) → Option ρ} {P : ρ → Prop} (h : Sat (f k) P) : Sat (jn k f) P := h
theorem sat_for {mi : Option (List PyData)} {mg : PyData → Option δ} {fb : τ → δ → Option (Ctl τ ρ)} {t0 : τ} {k : τ → Option ρ} {P : ρ → Prop} (I : Nat → τ → Prop) (xs : List PyData) (hm : mi = some xs) (h0 : I 0 t0)
    (hs : ∀ i t x, xs[i]? = some x → I i t → Sat ((mg x).bind (fb t)) fun c => ∃ t', c = .nx t' ∧ I (i + 1) t') (hk : ∀ t, I xs.length t → Sat (k t) P) : Sat (forM' mi mg fb t0 k) P := by
  subst hm
  obtain ⟨t, h1, h2⟩ := for_list (f := fun t d => (mg d).bind (fb t)) I xs t0 h0 fun i t x hx hI => by
    obtain ⟨c, h1, t', rfl, h2⟩ := hs i t x hx hI
    exact ⟨t', h1, h2⟩
  show Sat ((forC _ xs t0).bind (Ctl.go k)) P
  rw [h1]
  exact hk t h2
theorem sat_rng {mi : Option (List PyData)} {mg : PyData → Option δ} {fb : τ → δ → Option (Ctl τ ρ)} {t0 : τ} {k : τ → Option ρ} {P : ρ → Prop} (I : Nat → τ → Prop) (n : Nat) (hm : mi = some (rngI 0 n)) (h0 : I 0 t0)
    (hs : ∀ (i : Nat) t, i < n → I i t → Sat ((mg (.int i)).bind (fb t)) fun c => ∃ t', c = .nx t' ∧ I (i + 1) t') (hk : ∀ t, I n t → Sat (k t) P) : Sat (forM' mi mg fb t0 k) P :=
  sat_for I _ hm h0 (fun i t x hx hI => by
    have hi : i < n := by have := (List.getElem?_eq_some_iff.mp hx).1; rwa [rngI_len] at this
    rw [rngI_at hi] at hx
    obtain rfl := (Option.some.inj hx).symm
    rw [Int.zero_add]
    exact hs i t hi hI) (fun t h => hk t (by rwa [rngI_len] at h))
theorem sat_lc {mi : Option (List PyData)} {mg : PyData → Option δ} {fe : δ → Option PyData} {Q : PyData → Prop} (P : Nat → PyData → Prop) (xs : List PyData) (hm : mi = some xs) (hl : xs.length ≤ 16777216)
    (h : ∀ i x, xs[i]? = some x → Sat ((mg x).bind fe) (P i)) (q : ∀ ys : List PyData, ys.length = xs.length → (∀ i y, ys[i]? = some y → P i y) → Q (.list ys)) : Sat (lcM mi mg (fun _ => some true) fe) Q := by
  subst hm
  obtain ⟨ys, h1, h2, h3⟩ := lc_ex (mg := mg) (fe := fe) P hl h
  exact ⟨_, h1, q ys h2 h3⟩
theorem sat_lcr {mi : Option (List PyData)} {mg : PyData → Option δ} {fe : δ → Option PyData} {Q : PyData → Prop} (P : Nat → PyData → Prop) (n : Nat) (hm : mi = some (rngI 0 n)) (hl : n ≤ 16777216)
    (h : ∀ i : Nat, i < n → Sat ((mg (.int i)).bind fe) (P i)) (q : ∀ ys : List PyData, ys.length = n → (∀ i y, ys[i]? = some y → P i y) → Q (.list ys)) : Sat (lcM mi mg (fun _ => some true) fe) Q := by
  subst hm
  obtain ⟨ys, h1, h2, h3⟩ := lc_rng (mg := mg) (fe := fe) P hl h
  exact ⟨_, h1, q ys h2 h3⟩
end
end Mir
namespace Mir
end Mir
namespace Mir
open PySem PySem.Spec PyProof.Rows L2
theorem cut_mem {z : Str} {lo hi : Option Int} {c : Nat} (m : c ∈ (cutS z lo hi).cps.toList) : c ∈ z.cps.toList := by
  unfold cutS at m
  exact List.mem_of_mem_drop (List.mem_of_mem_take (by simpa using m))
theorem cut_len (z : Str) (lo hi : Option Int) : (cutS z lo hi).length ≤ z.length := by
  unfold cutS
  simp only [Str.length, List.size_toArray, List.length_take, List.length_drop]
  have : z.cps.toList.length = z.cps.size := by simp
  omega
theorem rep_mem {z : Str} {n : Int} {c : Nat} (m : c ∈ (repS z n).cps.toList) : c ∈ z.cps.toList := by
  unfold repS at m
  simp only [List.mem_flatten, List.mem_replicate] at m
  obtain ⟨l, ⟨_, rfl⟩, m⟩ := m
  exact m
theorem mul_s {z : Str} {n : Int} (h : n ≤ 1000000) (h0 : -1000000 ≤ n) (hl : z.length * n.toNat ≤ 16777216) : pMul (.str z) (.int n) = some (.str (repS z n)) := if_pos ⟨h, h0, hl⟩
@[simp] theorem pSl_s (z : Str) (l h : Option Int) : pSl (.str z) l h = some (.str (cutS z l h)) := rfl
@[simp] theorem pSl_l (ds : List PyData) (l h : Option Int) : pSl (.list ds) l h = some (.list (cutD ds l h)) := rfl
@[simp] theorem pSl_t (ds : List PyData) (l h : Option Int) : pSl (.tuple ds) l h = some (.tuple (cutD ds l h)) := rfl
theorem cat2 {a b : Str} (ha : a.length ≤ 1000000) (hb : b.length ≤ 1000000) : pAdd (.str a) (.str b) = some (.str (a ++ b)) := add_s (by omega)
theorem cat3 {a b c : Str} (ha : a.length ≤ 1000000) (hb : b.length ≤ 1000000) (hc : c.length ≤ 1000000) : b2 pAdd (b2 pAdd (some (.str a)) (some (.str b))) (some (.str c)) = some (.str (a ++ b ++ c)) := by
  rw [b2_ss, cat2 ha hb, b2_ss, add_s (by rw [len_app]; omega)]
theorem at_1 {α : Type} (x y : α) (xs : List α) : atI (x :: y :: xs) 1 = some y := at_nat (x :: y :: xs) 1 y rfl
theorem at_2 {α : Type} (x y z : α) (xs : List α) : atI (x :: y :: z :: xs) 2 = some z := at_nat (x :: y :: z :: xs) 2 z rfl
theorem at_3 {α : Type} (x y z u : α) (xs : List α) : atI (x :: y :: z :: u :: xs) 3 = some u := at_nat (x :: y :: z :: u :: xs) 3 u rfl
theorem at_4 {α : Type} (x y z u v : α) (xs : List α) : atI (x :: y :: z :: u :: v :: xs) 4 = some v := at_nat (x :: y :: z :: u :: v :: xs) 4 v rfl
end Mir
namespace Mir
open PySem PySem.Spec PyProof.Rows L2
/-! ### x[::-1] -/
def revS (z : Str) : Str := ⟨z.cps.toList.reverse.toArray⟩
def pRev : PyData → Option PyData
  | .list ds => some (.list ds.reverse)
  | .tuple ds => some (.tuple ds.reverse)
  | .str z => some (.str (revS z))
  | _ => none
theorem revS_list (z : Str) : (List.range z.length).map (fun k => z.cps.getD (z.length - 1 - k) 0) = z.cps.toList.reverse := by
  apply List.ext_getElem
  · simp [Str.length]
  · intro i h1 h2
    simp only [List.length_map, List.length_range] at h1
    have h1' : i < z.cps.size := h1
    rw [List.getElem_map, List.getElem_range, List.getElem_reverse]
    have h3 : z.length - 1 - i < z.cps.size := by show z.cps.size - 1 - i < z.cps.size; omega
    rw [Array.getD_eq_getD_getElem?, Array.getElem?_eq_getElem h3]
    simp [Str.length]
section
variable {prog : Program} {w : World} {A : Around} {E : Value → Shared → Prop} {s : Shared}
theorem adjust_rev (n : Nat) : Builtin.Slice.sliceAdjust none none (-1) (n : Int) = ((n : Int) - 1, -1) := by
  unfold Builtin.Slice.sliceAdjust
  have h1 : ((-1 : Int) < 0) := by omega
  simp only [h1, if_true]
theorem places_rev (n : Nat) : Builtin.Slice.slicePlaces ((n : Int) - 1) (-1) (-1) = n := by
  unfold Builtin.Slice.slicePlaces
  have h1 : ¬ ((-1 : Int) > 0) := by omega
  simp only [h1, if_false]
  rw [show (- -1 : Int) = 1 by decide, Int.ediv_one]
  split <;> omega
theorem applied_rev {sl : Addr} {vl vu vs : Value} {n : Nat} {Q : Int × Int × Nat → Shared → Prop} (hs : s.heap.IsSliceOf sl vl vu vs) (pl : IsPart vl none) (pu : IsPart vu none) (ps : IsPart vs (some (-1)))
    (h : Q ((n : Int) - 1, -1, n) s) : wpAny (model prog w) A (Builtin.Slice.sliceApplied (.ref sl) (pure (n : Int))) Q E s := by
  obtain ⟨os, hos, hcs, hds⟩ := id hs
  unfold Builtin.Slice.sliceApplied Builtin.Slice.sliceFields
  refine wpAny_bind (wpAny_bind (wpAny_field hos hds (x := vl) rfl (wpAny_bind (wpAny_field hos hds (x := vu) rfl (wpAny_bind (wpAny_field hos hds (x := vs) rfl (wpAny_pure ?_)))))))
  refine wpAny_bind (HT.slicePart_ ps ?_)
  show wpAny _ _ (if ((-1 : Int) == 0) = true then _ else _) _ _ s
  rw [if_neg (by decide)]
  refine wpAny_bind (HT.slicePart_ pl (wpAny_bind (HT.slicePart_ pu (wpAny_bind (wpAny_pure ?_)))))
  show wpAny _ _ (match Builtin.Slice.sliceAdjust none none (-1) (n : Int) with | (lo, hi) => pure (lo, (-1 : Int), Builtin.Slice.slicePlaces lo hi (-1))) _ _ s
  rw [adjust_rev n]
  show wpAny _ _ (pure ((n : Int) - 1, (-1 : Int), Builtin.Slice.slicePlaces ((n : Int) - 1) (-1) (-1))) _ _ s
  rw [places_rev]
  exact wpAny_pure h
theorem fm_map {α β : Type} {f : α → Option β} {g : α → β} : ∀ {l : List α}, (∀ x ∈ l, f x = some (g x)) → l.filterMap f = l.map g
  | [], _ => rfl
  | x :: l, h => by rw [List.filterMap_cons, h x (by simp), List.map_cons, fm_map fun y m => h y (List.mem_cons_of_mem _ m)]
theorem pick_rev (xs : List Value) : ((List.range xs.length).filterMap fun (m : Nat) => xs.toArray[((xs.length : Int) - 1 + (m : Int) * (-1)).toNat]?).toArray = xs.reverse.toArray := by
  congr 1
  rw [fm_map (g := fun m => xs.getD (xs.length - 1 - m) .none) fun m hm => by
    have hm' := List.mem_range.mp hm
    have : ((xs.length : Int) - 1 + (m : Int) * (-1)).toNat = xs.length - 1 - m := by omega
    simp only [this, List.getElem?_toArray]
    rw [List.getD_eq_getElem?_getD, List.getElem?_eq_getElem (show xs.length - 1 - m < xs.length by omega)]
    simp]
  apply List.ext_getElem
  · simp
  · intro i h1 h2
    simp only [List.length_map, List.length_range] at h1
    rw [List.getElem_map, List.getElem_range, List.getElem_reverse, List.getD_eq_getElem?_getD, List.getElem?_eq_getElem (show xs.length - 1 - i < xs.length by omega)]
    simp
theorem getItem_tuple_rev {t sl : Addr} {items : List Value} {vl vu vs : Value} {Q : Value → Shared → Prop} (ht : IsTup s.heap t items.toArray) (hs : s.heap.IsSliceOf sl vl vu vs) (pl : IsPart vl none) (pu : IsPart vu none) (ps : IsPart vs (some (-1)))
    (h : Q (.ref s.heap.objs.size) { s with heap := s.heap.push { cls := .type "tuple", data := .seq items.reverse.toArray } }) (hsz : items.length ≤ sizeLine) : wpAny (model prog w) A (getItem (.ref t) (.ref sl)) Q E s := by
  have htake : sizeOk (.seq items.reverse.toArray) := by
    show items.reverse.toArray.size ≤ sizeLine
    simpa using hsz
  obtain ⟨os, hos, hcs, hds⟩ := id hs
  have hTs : s.TypeIs (.ref sl) "slice" := ⟨os, hos, hcs⟩
  unfold getItem
  try with_reducible refine wpAny_holding ?_
  first | refine wpAny_bind (wpAny_pure ?_) | skip
  refine wpAny_bind (wpAny_sequenceKey ht.typeIs (by decide) ?_)
  refine wpAny_bind (wpAny_callSpecial?_slot (name := Str.ofString "__getitem__") ht.typeIs PyProof.Rows.slot_tuple_getitem
    (wpAny_call_entry PyProof.Rows.slot_tuple_getitem ht.typeIs entry_tuple_getitem ?_ (args_tuple_getitem _ _)))
  show wpAny _ _ (Builtin.Tuple.tupleItemsOf (.ref t) >>= _) _ _ s
  refine wpAny_bind (tupleItemsOf_ ht ?_)
  refine wpAny_bind (wpAny_typeOf hTs ?_)
  rw [if_pos (by decide)]
  refine wpAny_bind (applied_rev (n := items.length) hs pl pu ps ?_)
  have hno : ¬ ((((items.length : Int) - 1) == 0 && (-1 : Int) == 1 && items.length == items.toArray.size) = true) := by
    intro q
    rw [Bool.and_eq_true, Bool.and_eq_true] at q
    exact absurd q.1.2 (by decide)
  show wpAny _ _ (if ((((items.length : Int) - 1) == 0 && (-1 : Int) == 1 && items.length == items.toArray.size) = true) then _ else _) _ _ s
  rw [if_neg hno, pick_rev]
  first
    | exact wpAny_bind (m := Builtin.Tuple.tupleExact _) (wpAny_newObj_type (wpAny_pure ⟨_, rfl, wpAny_pure h⟩) htake)
    | exact wpAny_bind (m := Builtin.Tuple.tupleExact _) (wpAny_newObj_type (wpAny_bind (wpAny_pure (wpAny_pure ⟨_, rfl, wpAny_pure h⟩))) htake)
    | exact wpAny_bind (wpAny_bind (m := Builtin.Tuple.tupleExact _) (wpAny_newObj_type (wpAny_pure (wpAny_pure ⟨_, rfl, wpAny_pure h⟩)) htake))
    | exact wpAny_bind (wpAny_bind (m := Builtin.Tuple.tupleExact _) (wpAny_newObj_type (wpAny_pure ⟨_, rfl, wpAny_pure h⟩) htake))
end
section
variable {X : Cx} {tb : Addr → Prop} {e : Expr} {sh : List Sl} {env : List PyData} {me : Option PyData} {pos : Pos}
theorem x_rev {k : Nat} {p1 p2 p3 : Pos} (he : PE X e (tV (gx tb X) sh env me)) : PE X (.Subscript e (.Slice none none (some (.UnaryOp .USub (.Constant (.int 1) k p1) p2)) p3) pos) (tO (gx tb X) .any sh env (me.bind pRev)) := by
  refine ⟨fun pins s σ H Q I ⟨F, A, d, s0, e0, q⟩ => ?_⟩
  obtain ⟨a, ha, e0⟩ := Option.bind_eq_some_iff.mp e0
  refine Subscript_ (thn (he.run pins s σ H (fun v H1 => ∃ F1, Grow F H F1 H1 ∧ View (gx tb X) F1 H1 v a) I ⟨F, A, a, s0, ha, fun v F1 H1 w1 r => ⟨F1, w1, r⟩⟩) fun v s1 ⟨x, H1, I1, r1, F1, w1, pa⟩ => ?_)
  have q1 : Ans (gx tb X) F1 H1 d Q := Ans.trans w1 q
  have hst : PO X (some (.UnaryOp .USub (.Constant (.int 1) k p1) p2)) (tPart (tUn (rU fun i => .int (-i)) (tC (.int 1)))) := po_some (pe_un un_neg pe_int)
  refine wpAny_Slice (thn (po_none.run pins s1 σ H1 (fun o H2 => o = none ∧ H2 = H1) I1 ⟨rfl, rfl⟩) fun vl s2 ⟨l, H2, I2, pl', el, e2⟩ => ?_)
  subst el e2
  refine thn (po_none.run pins s2 σ H2 (fun o H3 => o = none ∧ H3 = H2) I2 ⟨rfl, rfl⟩) fun vu s3 ⟨u, H3, I3, pu, eu, e3⟩ => ?_
  subst eu e3
  refine thn (hst.run pins s3 σ H3 (fun o H4 => o = some (-1) ∧ H4 = H3) I3 ⟨1, rfl, -1, rfl, rfl, rfl⟩) fun vs s4 ⟨o, H4, I4, ps, eo, e4⟩ => ?_
  subst eo e4
  have I5 : Inv X pins σ H4 { s4 with heap := s4.heap.push { cls := .type "slice", data := .fields #[vl, vu, vs] } } := I4.kept (t' := s4.toks) fun b ob q => Heap.get?_push_of_some _ q
  show wpAny (model X.prog X.w) X.A (subscriptTail e (.Slice none none (some (.UnaryOp .USub (.Constant (.int 1) k p1) p2)) p3) v (.ref s4.heap.objs.size)) (EP X pins σ Q) X.xe { s4 with heap := s4.heap.push { cls := .type "slice", data := .fields #[vl, vu, vs] } }
  unfold pRev at e0
  split at e0
  · cases e0
    obtain ⟨p, ws, rfl, h1, rp⟩ := pa
    cases r1
    obtain ⟨its, r, ht, hz⟩ := I5.list (.inl (.inl h1))
    have hlen := r.length
    refine tail_any (ops := [.ref p, .ref s4.heap.objs.size]) ht.isList.typeIs (PySem.slot_list_getitem.lookup) ?_ (by with_unfolding_all rfl)
    refine wpAny_getItem_list_slice ht.isList (Heap.IsSliceOf.new _ vl vu vs) pl' pu ps (by decide) ?_ (by rw [List.size_toArray]; omega)
    rw [PySem.W.krv_pick]
    refine ⟨.ref _, _, I5.laid (t' := s4.toks) (o := .lst ws.reverse) (fun b ob q => Heap.get?_push_of_some _ q) (Nat.le_refl _) ?_, rfl, q1.lst w1.good (I5.hok.fresh (Nat.le_refl _)) rp.rev⟩
    exact ⟨by rw [List.length_reverse]; exact hz, _, 0, r.reverse, Heap.get?_push_size _ rfl⟩
  · cases e0
    cases pa with | @tup p ws _ h1 rp =>
    cases r1
    obtain ⟨its, r, ht, hz⟩ := I5.tuple (sub_t w1.good.sub h1)
    have hlen := r.length
    have ht' : IsTup (s4.heap.push { cls := .type "slice", data := .fields #[vl, vu, vs] }) p its.toArray := ht
    refine tail_any (ops := [.ref p, .ref s4.heap.objs.size]) ht'.typeIs (PyProof.Rows.slot_tuple_getitem.lookup) ?_ (by with_unfolding_all rfl)
    refine getItem_tuple_rev ht' (Heap.IsSliceOf.new _ vl vu vs) pl' pu ps ?_ (by omega)
    refine ⟨.ref _, _, I5.laid (t' := s4.toks) (o := .tup ws.reverse) (fun b ob q => Heap.get?_push_of_some _ q) (Nat.le_refl _) ?_, rfl, q1.tup w1.good (I5.hok.fresh (Nat.le_refl _)) rp.rev⟩
    exact ⟨by rw [List.length_reverse]; exact hz, _, r.reverse, IsTup.new _ _⟩
  · rename_i z
    cases e0
    rename_i zz
    cases pa with | str _ ok hl =>
    obtain ⟨t, rfl⟩ := r1
    obtain ⟨os, hos, hcs, hds⟩ := Heap.IsSliceOf.new s4.heap vl vu vs
    obtain ⟨l, rfl, hl1⟩ := IsPart.raw pl'
    obtain ⟨u, rfl, hu1⟩ := IsPart.raw pu
    obtain ⟨st, rfl, hs1⟩ := IsPart.raw ps
    refine tail_any (ops := [.str zz t, .ref s4.heap.objs.size]) (typeIs_str _ zz t) (PySem.F.slot_str_getitem.lookup) ?_ (by with_unfolding_all rfl)
    refine wpAny_getItem_str_slice (l := l) (u := u) (st := st) ⟨os, hos, hcs, hds⟩ (by rw [hs1]; rfl) ?_
    have hr : (⟨((Builtin.Str.strSliceIndices none none (-1) zz.length).filterMap (zz.cps[·]?)).toArray⟩ : Str) = revS zz := by
      apply W.str_of_cps
      have h := PyProof.Rows.step_rev_list zz default
      rw [revS_list] at h
      show _ = (zz.cps.toList.reverse.toArray).toList
      rw [List.toList_toArray, ← h]
      rfl
    unfold sliceMade slicePicked
    rw [hl1, hu1, hs1]
    show Made.post (if ((-1 : Int) == 1 && _) = true then _ else Made.str ⟨((Builtin.Str.strSliceIndices none none (-1) zz.length).filterMap (zz.cps[·]?)).toArray⟩) _ _
    rw [if_neg (by simp), hr]
    refine ⟨by rw [lim_eq]; show (zz.cps.toList.reverse.toArray).size ≤ _; simpa [Str.length] using hl, .str _, H4, I5.tok _, ⟨_, rfl⟩, q1.here w1.good trivial (.str _ (ok_sub ok fun c m => by simpa [revS] using m) (by show (zz.cps.toList.reverse.toArray).size ≤ _; simpa [Str.length] using hl))⟩
  · cases e0
end
end Mir
namespace Mir
open PySem PySem.Spec PyProof.Rows L2
/-! ### more on the plain side -/
section
variable {α τ ρ δ : Type}
theorem lcS_fil {f : PyData → Option (Option PyData)} (P : PyData → Prop) : ∀ (xs : List PyData), (∀ x ∈ xs, ∃ o, f x = some o ∧ ∀ y, o = some y → P y) → ∃ ys, lcS f xs = some ys ∧ (∀ y ∈ ys, P y) ∧ ys.length ≤ xs.length
  | [], _ => ⟨[], rfl, (fun _ m => nomatch m), Nat.le_refl _⟩
  | x :: xs, h => by
    obtain ⟨o, h1, h2⟩ := h x (by simp)
    obtain ⟨ys, h3, h4, h5⟩ := lcS_fil P xs fun y m => h y (List.mem_cons_of_mem _ m)
    cases o with
    | none => exact ⟨ys, by unfold lcS; rw [h1, h3]; rfl, h4, by simp; omega⟩
    | some y => exact ⟨y :: ys, by unfold lcS; rw [h1, h3]; rfl, fun z m => (List.mem_cons.mp m).elim (fun e => e ▸ h2 y rfl) (h4 z), by simp; omega⟩
theorem sat_lcf {mi : Option (List PyData)} {mg : PyData → Option δ} {ft : δ → Option Bool} {fe : δ → Option PyData} {Q : PyData → Prop} (P : PyData → Prop) (xs : List PyData) (hm : mi = some xs) (hl : xs.length ≤ 16777216)
    (h : ∀ x ∈ xs, Sat ((mg x).bind (lcT ft fe)) (fun o => ∀ y, o = some y → P y)) (q : ∀ ys : List PyData, (∀ y ∈ ys, P y) → ys.length ≤ xs.length → Q (.list ys)) : Sat (lcM mi mg ft fe) Q := by
  subst hm
  obtain ⟨ys, h1, h2, h3⟩ := lcS_fil (f := fun d => (mg d).bind (lcT ft fe)) P xs h
  refine ⟨_, ?_, q ys h2 h3⟩
  unfold lcM
  rw [Option.bind_some, if_pos hl, h1]; rfl
theorem sat_lcT {ft : δ → Option Bool} {fe : δ → Option PyData} {z : δ} {P : PyData → Prop} (h : Sat (ft z) fun b => b = true → Sat (fe z) P) : Sat (lcT ft fe z) fun o => ∀ y, o = some y → P y := by
  obtain ⟨b, h1, h2⟩ := h
  unfold lcT
  rw [h1]
  cases b with
  | true =>
    obtain ⟨y, h3, h4⟩ := h2 rfl
    rw [Option.bind_some, if_pos rfl, h3]
    exact ⟨_, rfl, fun z e => by cases e; exact h4⟩
  | false => exact ⟨none, rfl, fun z e => nomatch e⟩
theorem rng2 {a b : Int} (h1 : -(2 ^ 62) ≤ a) (h2 : a < 2 ^ 62) (h3 : -(2 ^ 62) ≤ b) (h4 : b < 2 ^ 62) : pRng2 (.int a) (.int b) = some (rngI a (b - a).toNat) := if_pos ⟨h1, h2, h3, h4⟩
theorem rngI_mem {lo : Int} {n : Nat} {x : PyData} (h : x ∈ rngI lo n) : ∃ i : Int, x = .int i ∧ lo ≤ i ∧ i < lo + n := by
  unfold rngI at h
  obtain ⟨j, hj, rfl⟩ := List.mem_map.mp h
  have := List.mem_range.mp hj
  exact ⟨_, rfl, by omega, by omega⟩
/-! ### texts as lists of signs -/
theorem str_ext {x y : Str} (h : x.cps.toList = y.cps.toList) : x = y := W.str_of_cps h
theorem len_eq (z : Str) : z.cps.toList.length = z.length := by simp [Str.length]
theorem sIx_pos {n d : Nat} {v : Int} (h : 0 ≤ v) : HT.sIx n d (some v) = min v.toNat n := by
  show (if v < 0 then _ else _) = _
  rw [if_neg (by omega)]
theorem sIx_nn (n d : Nat) : HT.sIx n d none = d := rfl
theorem cut_list (z : Str) (lo hi : Option Int) : (cutS z lo hi).cps.toList = (z.cps.toList.drop (HT.sIx z.length 0 lo)).take (HT.sIx z.length z.length hi - HT.sIx z.length 0 lo) := by
  unfold cutS
  simp
theorem cut_from (z : Str) {v : Int} (h : 0 ≤ v) : (cutS z (some v) none).cps.toList = z.cps.toList.drop v.toNat := by
  rw [cut_list, sIx_pos h, sIx_nn]
  apply List.ext_getElem
  · simp only [List.length_take, List.length_drop, len_eq]; omega
  · intro i h1 h2
    simp only [List.length_take, List.length_drop, len_eq] at h1 h2
    rw [List.getElem_take, List.getElem_drop, List.getElem_drop]
    congr 1
    omega
theorem cut_to (z : Str) {v : Int} (h : 0 ≤ v) : (cutS z none (some v)).cps.toList = z.cps.toList.take v.toNat := by
  rw [cut_list, sIx_pos h, sIx_nn, List.drop_zero, Nat.sub_zero]
  apply List.ext_getElem
  · simp only [List.length_take, len_eq]; omega
  · intro i h1 h2
    rw [List.getElem_take, List.getElem_take]
theorem rev_list (z : Str) : (revS z).cps.toList = z.cps.toList.reverse := by unfold revS; simp
theorem rev_len (z : Str) : (revS z).length = z.length := by rw [← len_eq, rev_list, List.length_reverse, len_eq]
theorem rev_rev (z : Str) : revS (revS z) = z := str_ext (by rw [rev_list, rev_list, List.reverse_reverse])
theorem ix_str {z : Str} {i : Int} (h0 : 0 ≤ i) (h : i < z.length) : pIx (.str z) (.int i) = some (sgn (z.cps.toList[i.toNat]'(by rw [len_eq]; omega))) := by
  show (atI z.cps.toList i).map _ = _
  rw [at_int h0 (by rw [len_eq]; exact h)]; rfl
@[simp] theorem pRev_s (z : Str) : pRev (.str z) = some (.str (revS z)) := rfl
@[simp] theorem pRev_l (ds : List PyData) : pRev (.list ds) = some (.list ds.reverse) := rfl
@[simp] theorem pRev_t (ds : List PyData) : pRev (.tuple ds) = some (.tuple ds.reverse) := rfl
@[simp] theorem pMax2_i (i j : Int) : pMax2 (.int i) (.int j) = some (.int (if j > i then j else i)) := rfl
@[simp] theorem pMin2_i (i j : Int) : pMin2 (.int i) (.int j) = some (.int (if j < i then j else i)) := rfl
theorem add_l {a b : List PyData} (h : a.length + b.length ≤ 16777216) : pAdd (.list a) (.list b) = some (.list (a ++ b)) := if_pos h
theorem add_t {a b : List PyData} (h : a.length + b.length ≤ 16777216) : pAdd (.tuple a) (.tuple b) = some (.tuple (a ++ b)) := if_pos h
/-- a comprehension of tests that all hold -/
theorem sat_all {mi : Option (List PyData)} {mg : PyData → Option δ} {fe : δ → Option PyData} (xs : List PyData) (hm : mi = some xs) (hl : xs.length ≤ 16777216) (h : ∀ x ∈ xs, (mg x).bind fe = some (.bool true)) : (lcM mi mg (fun _ => some true) fe).bind pAll = some (.bool true) := by
  subst hm
  rw [lc_all (fun _ => .bool true) hl h, Option.bind_some]
  exact all_true fun d hd => by
    obtain ⟨_, _, rfl⟩ := List.mem_map.mp hd; rfl
end
end Mir
namespace Mir
open PySem PySem.Spec PyProof.Rows L2
theorem gx_eq {α : Type} {l : List α} {i j : Nat} (h : i = j) (hi : i < l.length) (hj : j < l.length) : l[i] = l[j] := by subst h; rfl
theorem dec_sg {x y : Nat} (h : x = y) : some (PyData.bool (decide ((⟨#[x]⟩ : Str) = ⟨#[y]⟩))) = some (.bool true) := by subst h; simp
end Mir
namespace Mir
open PySem PySem.Spec PyProof.Rows L2
/-! ### elements of generator expressions -/
def RdD (h : Heap) (v : Value) (d : PyData) : Prop := (∃ as, Reads h v d as) ∧ d.canLay0 = true
theorem RdD.keep {h h' : Heap} {v : Value} {d : PyData} (r : RdD h v d) (k : ∀ b o, h.get? b = some o → h'.get? b = some o) : RdD h' v d :=
  ⟨r.1.imp fun _ x => PyProof.Rows.Reads.keeps k x, r.2⟩
/-- readings stay where only an object that is no list, tuple or dict may change -/
theorem reads_but {h h' : Heap} {P : Addr} (hP : ∀ o, h.get? P = some o → o.cls = .none) (k : ∀ b o, b ≠ P → h.get? b = some o → h'.get? b = some o) : (∀ (d : PyData) (v : Value) (as : List Addr), Reads h v d as → Reads h' v d as) := by
  have ne : ∀ {a o T}, h.get? a = some o → o.cls = .type T → h'.get? a = some o := fun {a o T} e c => k a o (fun z => by
    rw [z] at e; rw [hP o e] at c; cases c) e
  have main : ∀ n, (∀ (d : PyData) (v : Value) (as : List Addr), sizeOf d < n → Reads h v d as → Reads h' v d as) ∧ (∀ (ds : List PyData) (vs : List Value) (as : List Addr), sizeOf ds < n → ReadsAll h vs ds as → ReadsAll h' vs ds as) := by
    intro n
    induction n with
    | zero => exact ⟨fun _ _ _ h => absurd h (by omega), fun _ _ _ h => absurd h (by omega)⟩
    | succ n ih =>
      refine ⟨fun d v as hd r => ?_, fun ds vs as hd r => ?_⟩
      · cases r with
        | none => exact .none
        | bool b => exact .bool b
        | int i t => exact .int i t
        | str x t => exact .str x t
        | list h1 h2 h3 h4 => exact .list (ne h1 h2) h2 h3 (ih.2 _ _ _ (by simp at hd; omega) h4)
        | tuple h1 h2 h3 h4 => exact .tuple (ne h1 h2) h2 h3 (ih.2 _ _ _ (by simp at hd; omega) h4)
        | @dict a o es n' kvs as bs h1 h2 h3 h4 h5 =>
          have e1 : ∀ l : List (PyData × PyData), sizeOf (l.map (·.1)) ≤ sizeOf l ∧ sizeOf (l.map (·.2)) ≤ sizeOf l := fun l => by
            induction l with
            | nil => exact ⟨Nat.le_refl _, Nat.le_refl _⟩
            | cons p l ihl =>
              obtain ⟨x, y⟩ := p
              simp only [List.map_cons, List.cons.sizeOf_spec, Prod.mk.sizeOf_spec]
              omega
          have := e1 kvs
          exact .dict (ne h1 h2) h2 h3 (ih.2 _ _ _ (by simp at hd; omega) h4) (ih.2 _ _ _ (by simp at hd; omega) h5)
      · cases r with
        | nil => exact .nil
        | cons h1 h2 => exact .cons (ih.1 _ _ _ (by simp at hd; omega) h1) (ih.2 _ _ _ (by simp at hd; omega) h2)
  exact fun d v as r => (main (sizeOf d + 1)).1 d v as (by omega) r
/-- what an element may lean on -/
structure GSt (mg : Str → Option Value) (cenv : Env) (scope : Scope) (xs : List (Str × PyData)) (s : Shared) : Prop where
  sc : cenv.scope = scope
  kind : scope.kind = .function
  gl : cenv.globals = mainGlobals
  bl : cenv.builtins = builtinsNs
  ng : s.heap.Ns mainGlobals mg
  nb : ∃ mb, s.heap.Ns builtinsNs mb ∧ ∀ x : Str, x ≠ "__name__" → mb x = bootBuiltins x
  var : ∃ m, s.heap.Ns cenv.locals m ∧ ∀ y d, (y, d) ∈ xs → (scope.names.lookup y = some .local ∧ ∃ v, m y = some v ∧ RdD s.heap v d) ∨
    (scope.names.lookup y = some .free ∧ ∃ c u, cenv.cells.lookup y = some c ∧ s.heap.IsCell c (some u) ∧ RdD s.heap u d)
theorem keeps_get {s s' : Shared} (k : Keeps s s') : ∀ b o, s.heap.get? b = some o → s'.heap.get? b = some o := by
  obtain ⟨h', tk, rfl, k⟩ := k; exact k
theorem keeps_tr {a b c : Shared} (x : Keeps a b) (y : Keeps b c) : Keeps a c := by
  obtain ⟨h1, t1, rfl, k1⟩ := x
  obtain ⟨h2, t2, rfl, k2⟩ := y
  exact ⟨h2, t2, rfl, fun b o e => k2 b o (k1 b o e)⟩
theorem GSt.keep {mg : Str → Option Value} {cenv : Env} {scope : Scope} {xs : List (Str × PyData)} {s s' : Shared} (g : GSt mg cenv scope xs s) (k : Keeps s s') : GSt mg cenv scope xs s' := by
  have kk := keeps_get k
  refine ⟨g.sc, g.kind, g.gl, g.bl, g.ng.keeps kk, g.nb.imp fun mb h => ⟨h.1.keeps kk, h.2⟩, ?_⟩
  obtain ⟨m, h1, h2⟩ := g.var
  refine ⟨m, h1.keeps kk, fun y d hy => ?_⟩
  rcases h2 y d hy with ⟨a, v, b, c⟩ | ⟨a, c, u, b, d', e⟩
  · exact .inl ⟨a, v, b, c.keep kk⟩
  · refine .inr ⟨a, c, u, b, ?_, e.keep kk⟩
    obtain ⟨o, ho, hd⟩ := d'
    exact ⟨o, kk _ _ ho, hd⟩
/-- an element's value -/
def GE (prog : Program) (w : World) (mg : Str → Option Value) (scope : Scope) (U : Nat) (e : Expr) (xs : List (Str × PyData)) (m : Option PyData) : Prop :=
  ∀ (cenv : Env) (A : Around) (E : Value → Shared → Prop) (s : Shared) (r : PyData), A.units ≤ U → GSt mg cenv scope xs s → m = some r →
    wpAny (model prog w) A (eval e cenv) (fun y s' => RdD s'.heap y r ∧ Keeps s s') E s
section
variable {prog : Program} {w : World} {mg : Str → Option Value} {scope : Scope} {U : Nat} {xs : List (Str × PyData)} {e e1 e2 : Expr} {m m1 m2 : Option PyData} {pos : Pos}
theorem ge_name {y : Str} {d : PyData} (h : (y, d) ∈ xs) (hd : (y == ("__debug__" : Str)) = false := by decide) (hc : (y == ("__classdict__" : Str)) = false := by decide) : GE prog w mg scope U (.Name y pos) xs (some d) := by
  intro cenv A E s r hu g hr
  cases hr
  obtain ⟨m, h1, h2⟩ := g.var
  have hk : cenv.scope.kind = .function := by rw [g.sc]; exact g.kind
  rcases h2 y d h with ⟨a, v, b, c⟩ | ⟨a, c, u, b, d', e⟩
  · refine wpAny_Name (wpAny_loadName_local hk (show cenv.scope.names.lookup y = some .local by rw [g.sc]; exact a) h1 b ?_) hd
    exact ⟨c, GxR.keeps_refl _⟩
  · refine wpAny_Name (wpAny_loadName_free hk (show cenv.scope.names.lookup y = some .free by rw [g.sc]; exact a) b d' ?_ hc) hd
    exact ⟨e, GxR.keeps_refl _⟩
theorem ge_int {i : Int} {j : Nat} : GE prog w mg scope U (.Constant (.int i) j pos) xs (some (.int i)) := by
  intro cenv A E s r hu g hr
  cases hr
  exact fun _ _ _ => ⟨⟨⟨_, .int i _⟩, rfl⟩, GxR.keeps_tok _ _⟩
theorem ge_str {x : Str} {j : Nat} (h : PyData.strOk x = true := by decide +kernel) : GE prog w mg scope U (.Constant (.str x) j pos) xs (some (.str x)) := by
  intro cenv A E s r hu g hr
  cases hr
  exact Calls.Constant_str ⟨⟨⟨_, .str x _⟩, by simpa [PyData.canLay0] using h⟩, GxR.keeps_tok _ _⟩
/-- a comparison as the heap's readings tell it -/
def GCmp (U : Nat) (op : CmpOp) (f : PyData → PyData → Option Bool) : Prop := ∀ (prog : Program) (w : World) (A : Around) (E : Value → Shared → Prop) (s : Shared) (x y : Value) (a b : PyData) (t : Bool) (Q : Value → Shared → Prop), A.units ≤ U → RdD s.heap x a → RdD s.heap y b → f a b = some t → Q (.bool t) s → wpAny (model prog w) A (compareOp op x y) Q E s
theorem ge_cmp {op : CmpOp} {f : PyData → PyData → Option Bool} (ho : GCmp U op f) (h1 : GE prog w mg scope U e1 xs m1) (h2 : GE prog w mg scope U e2 xs m2) (hm : behindInMarks op e2 = false) :
    GE prog w mg scope U (.Compare e1 [op] [e2] pos) xs (bl (b2 f m1 m2)) := by
  intro cenv A E s r hu g hr
  obtain ⟨t, hr2, rfl⟩ := Option.map_eq_some_iff.mp hr
  obtain ⟨a, ha, hr3⟩ := Option.bind_eq_some_iff.mp hr2
  obtain ⟨b, hb, hr4⟩ := Option.bind_eq_some_iff.mp hr3
  refine wpAny_Compare1 (thn (h1 cenv A E s a hu g ha) fun x s1 ⟨rx, k1⟩ => thn (h2 cenv A E s1 b hu (g.keep k1) hb) fun y s2 ⟨ry, k2⟩ => ?_) hm
  exact ho prog w A E s2 x y a b t _ hu (rx.keep (keeps_get k2)) ry hr4 ⟨⟨⟨_, .bool t⟩, rfl⟩, keeps_tr k1 k2⟩
theorem gc_ord {op : CmpOp} {f : PyData → PyData → Option Bool} {r : PyData → PyData → Bool} (hU : U + 100 < cLine) (hf : ∀ a b, f a b = if cOk a b then some (r a b) else none)
    (rule : ∀ (da db : PyData) (A : Around) (s : Shared) (a b : Value) (as bs : List Addr), Reads s.heap a da as → Reads s.heap b db bs → W.alike da db = true → da ≠ .none → A.units + min da.depth db.depth < cLine →
      ∀ (prog : Program) (w : World) (E : Value → Shared → Prop) (Q : Value → Shared → Prop), Q (.bool (r da db)) s → wpAny (model prog w) A (compareOp op a b) Q E s) : GCmp U op f := by
  intro prog w A E s x y a b t Q hu ⟨⟨as, ra⟩, _⟩ ⟨⟨bs, rb⟩, _⟩ e q
  rw [hf] at e
  split at e
  · rename_i h
    cases e
    unfold cOk at h
    rw [Bool.and_eq_true, Bool.and_eq_true, Bool.and_eq_true] at h
    obtain ⟨⟨⟨h1, h2⟩, h3⟩, h4⟩ := h
    have := pl_dp h1
    exact rule a b A s x y as bs ra rb h3 (by rintro rfl; simp at h4) (by omega) prog w E Q q
  · cases e
theorem gc_lt (hU : U + 100 < cLine) : GCmp U .Lt cLt := gc_ord hU (fun _ _ => rfl) W.rcLt_alike
theorem gc_gt (hU : U + 100 < cLine) : GCmp U .Gt cGt := gc_ord hU (fun _ _ => rfl) W.rcGt_alike
theorem gc_le (hU : U + 100 < cLine) : GCmp U .LtE cLe := gc_ord hU (fun _ _ => rfl) W.rcLe_alike
theorem gc_ge (hU : U + 100 < cLine) : GCmp U .GtE cGe := gc_ord hU (fun _ _ => rfl) W.rcGe_alike
/-- a or b -/
theorem ge_or1 (h : GE prog w mg scope U e xs m) : GE prog w mg scope U (.BoolOp .Or [e] pos) xs m := fun cenv A E s r hu g hr => BoolOp_one (h cenv A E s r hu g hr)
theorem ge_and1 (h : GE prog w mg scope U e xs m) : GE prog w mg scope U (.BoolOp .And [e] pos) xs m := fun cenv A E s r hu g hr => BoolOp_one (h cenv A E s r hu g hr)
/-- both are bools -/
def gOr (a b : Option PyData) : Option PyData := a.bind fun x => match x with
  | .bool true => some (.bool true)
  | .bool false => b
  | _ => none
def gAnd (a b : Option PyData) : Option PyData := a.bind fun x => match x with
  | .bool true => b
  | .bool false => some (.bool false)
  | _ => none
theorem bool_of {h : Heap} {v : Value} {b : Bool} (r : RdD h v (.bool b)) : v = .bool b := by
  obtain ⟨⟨as, r⟩, _⟩ := r
  cases r; rfl
theorem ge_or {rest : List Expr} (h1 : GE prog w mg scope U e1 xs m1) (h2 : GE prog w mg scope U (.BoolOp .Or (e2 :: rest) pos) xs m2) : GE prog w mg scope U (.BoolOp .Or (e1 :: e2 :: rest) pos) xs (gOr m1 m2) := by
  intro cenv A E s r hu g hr
  obtain ⟨a, ha, hr⟩ := Option.bind_eq_some_iff.mp hr
  refine BoolOp_or (thn (h1 cenv A E s a hu g ha) fun v s1 ⟨rx, k1⟩ => ?_)
  split at hr
  · cases hr
    cases bool_of rx
    exact wpAny_truthy_bool ⟨rx, k1⟩
  · cases bool_of rx
    refine wpAny_truthy_bool ?_
    exact thn (h2 cenv A E s1 r hu (g.keep k1) hr) fun y s2 ⟨ry, k2⟩ => ⟨ry, keeps_tr k1 k2⟩
  · cases hr
theorem ge_and {rest : List Expr} (h1 : GE prog w mg scope U e1 xs m1) (h2 : GE prog w mg scope U (.BoolOp .And (e2 :: rest) pos) xs m2) : GE prog w mg scope U (.BoolOp .And (e1 :: e2 :: rest) pos) xs (gAnd m1 m2) := by
  intro cenv A E s r hu g hr
  obtain ⟨a, ha, hr⟩ := Option.bind_eq_some_iff.mp hr
  refine BoolOp_and (thn (h1 cenv A E s a hu g ha) fun v s1 ⟨rx, k1⟩ => ?_)
  split at hr
  · cases bool_of rx
    refine wpAny_truthy_bool ?_
    exact thn (h2 cenv A E s1 r hu (g.keep k1) hr) fun y s2 ⟨ry, k2⟩ => ⟨ry, keeps_tr k1 k2⟩
  · cases hr
    cases bool_of rx
    exact wpAny_truthy_bool ⟨rx, k1⟩
  · cases hr
theorem readsAll_len {h : Heap} : ∀ {vs : List Value} {ds : List PyData} {as : List Addr}, ReadsAll h vs ds as → vs.length = ds.length
  | _, _, _, .nil => rfl
  | _, _, _, .cons _ t => by simp [readsAll_len t]
/-- len(e), not too long -/
def gLen : PyData → Option PyData
  | .list ds => if ds.length ≤ 16777216 then some (.int ds.length) else none
  | .tuple ds => if ds.length ≤ 16777216 then some (.int ds.length) else none
  | .str z => if z.length ≤ 16777216 then some (.int z.length) else none
  | _ => none
theorem ge_len {p : Pos} (hs : scope.names.lookup ("len" : Str) = some .globalImplicit) (hm : mg "len" = none) (h : GE prog w mg scope U e xs m)
    (he : ∀ env : Env, starEach [e] env = (false, eval e env) :: starEach [] env := by intro _; rfl) : GE prog w mg scope U (.Call (.Name "len" p) [e] [] pos) xs (m.bind gLen) := by
  intro cenv A E s r hu g hr
  obtain ⟨a, ha, hr⟩ := Option.bind_eq_some_iff.mp hr
  obtain ⟨mb, hb1, hb2⟩ := g.nb
  refine wpAny_Call_Name_kw (Calls.Name_function_global (by rw [g.sc]; exact g.kind) (show cenv.scope.names.lookup _ = _ by rw [g.sc]; exact hs) (Calls.loadGlobal_builtin (by rw [g.gl]; exact g.ng) hm (by rw [g.bl]; exact hb1) ((hb2 _ (by decide)).trans bt_len) ?_))
  refine PyProof.Rows.callWith_builtin1 ?_ (he cenv) (by rfl)
  rw [he cenv]
  refine Calls.spliced_cons (thn (h cenv A E s a hu g ha) fun v s1 ⟨⟨⟨as, rx⟩, cx⟩, k1⟩ => Calls.spliced_nil ?_)
  have tk : ∀ t : Nat, Keeps s { s1 with toks := t } := fun t => keeps_tr k1 (GxR.keeps_tok _ _)
  unfold gLen at hr
  split at hr
  · split at hr
    · rename_i hz
      cases hr
      cases rx with
      | @list a o vs n _ _ h1 h2 h3 h4 =>
        have e := readsAll_len h4
        rw [Array.length_toList] at e
        refine Calls.call_len_list ⟨o, h1, h2, n, h3⟩ (by omega) ⟨⟨⟨[], ?_⟩, rfl⟩, tk _⟩
        rw [e]; exact .int _ _
    · cases hr
  · split at hr
    · rename_i hz
      cases hr
      cases rx with
      | @tuple a o vs n _ _ h1 h2 h3 h4 =>
        have e := readsAll_len h4
        rw [Array.length_toList] at e
        refine len_tuple ⟨o, h1, h2, n, h3⟩ (by omega) ⟨⟨⟨[], ?_⟩, rfl⟩, tk _⟩
        rw [e]; exact .int _ _
    · cases hr
  · split at hr
    · rename_i hz
      cases hr
      cases rx with
      | str _ t => exact len_str (by omega) ⟨⟨⟨_, .int _ _⟩, rfl⟩, tk _⟩
    · cases hr
  · cases hr
end
section
variable {X : Cx} {tb : Addr → Prop} {elt iter : Expr} {sh : List Sl} {env : List PyData} {me : Option PyData}
/-- the items as the heap holds them -/
def ItR (h : Heap) (xs : List PyData) (i : Nat) (v : Value) : Prop := ∃ d, xs[i]? = some d ∧ RdD h v d
theorem iter_go {pins : List (Addr × Obj)} {s : Shared} {σ : L2.St} {F H : Hp} {v : V} {u : Value} {d : PyData} {xs : List PyData} {E : Value → Shared → Prop} {Q : Value → Shared → Prop} (I : Inv X pins σ H s) (gd : Good F H) (r : Rep (gx tb X) F v d) (hd : d.hasDict = false) (ru : RelV v u) (hx : pItm d = some xs)
    (hQ : ∀ (o : Obj) (fp : List Addr) (St : Nat → Heap → Prop), (∀ b ∈ fp, b < s.heap.objs.size + 1 ∧ (b = s.heap.objs.size ∨ ∃ o, s.heap.get? b = some o ∧ o.cls ≠ .none)) → (∀ A' : Around, A'.handled = none → Walks X.prog X.w A' s.heap.objs.size fp [s.heap.objs.size] xs.length (ItR s.heap xs) St) → St 0 (s.heap.push o) → Q (.ref s.heap.objs.size) { s with heap := s.heap.push o }) :
    wpAny (model X.prog X.w) X.A (pyIter u) Q E s := by
  obtain ⟨dp, lay⟩ := Rep.dp gd.sub d v r hd
  obtain ⟨as, rd⟩ := Dp.reads I d v u dp ru
  have each : ∀ {vs : List Value} {ds : List PyData} {as : List Addr}, ReadsAll s.heap vs ds as → PyData.canLayAll0 ds = true → ∀ i x, vs[i]? = some x → ItR s.heap ds i x := by
    intro vs
    induction vs with
    | nil => intro ds as _ _ i x e; simp at e
    | cons y vs ih =>
      intro ds as h c i x e
      cases h with
      | @cons _ _ d0 ds _ _ h1 h2 =>
        have c' : d0.canLay0 = true ∧ PyData.canLayAll0 ds = true := by simpa [PyData.canLayAll0] using c
        cases i with
        | zero => simp at e; subst e; exact ⟨d0, rfl, ⟨_, h1⟩, c'.1⟩
        | succ i =>
          obtain ⟨d', h3, h4⟩ := ih h2 c'.2 i x (by simpa using e)
          exact ⟨d', by simpa using h3, h4⟩
  have len : ∀ {vs : List Value} {ds : List PyData} {as : List Addr}, ReadsAll s.heap vs ds as → vs.length = ds.length := by
    intro vs
    induction vs with
    | nil => intro ds as h; cases h; rfl
    | cons y vs ih => intro ds as h; cases h with | cons h1 h2 => simp [ih h2]
  unfold pItm at hx
  split at hx
  · cases hx
    cases rd with
    | @list a o vs n _ as h1 h2 h3 h4 =>
      have hl : s.heap.IsList a vs := ⟨o, h1, h2, n, h3⟩
      have lt : a < s.heap.objs.size := Heap.lt_size h1
      refine wpAny_pyIter_list hl (hQ _ [s.heap.objs.size, a] (fun i h => h.IsListIter s.heap.objs.size a i ∧ h.IsList a vs) (fun b hb => ?_) (fun A' hA => ?_) ⟨⟨_, Heap.get?_push_size _ rfl, rfl, rfl⟩, ⟨o, Heap.get?_push_of_some _ h1, h2, n, h3⟩⟩)
      · rcases List.mem_cons.mp hb with rfl | hb
        · exact ⟨Nat.lt_succ_self _, .inl rfl⟩
        · rw [List.mem_singleton.mp hb]; exact ⟨Nat.lt_succ_of_lt lt, .inr ⟨o, h1, by rw [h2]; exact fun z => nomatch z⟩⟩
      · have W := Walks.list (prog := X.prog) (w := X.w) hA s.heap.objs.size a (Nat.ne_of_lt lt) vs
        have e : vs.size = xs.length := by have := len h4; simpa using this
        rw [← e]
        exact W.mono_item fun i x _ hx => each h4 (by simpa [PyData.canLay0] using lay) i x (by simpa using hx)
  · cases hx
    cases rd with
    | @tuple a o vs n _ as h1 h2 h3 h4 =>
      have hl : s.heap.IsTuple a vs := ⟨o, h1, h2, n, h3⟩
      have lt : a < s.heap.objs.size := Heap.lt_size h1
      refine wpAny_pyIter_tuple hl (hQ _ [s.heap.objs.size, a] (fun i h => h.IsTupleIter s.heap.objs.size a i ∧ h.IsTuple a vs) (fun b hb => ?_) (fun A' hA => ?_) ⟨⟨_, Heap.get?_push_size _ rfl, rfl, rfl⟩, ⟨o, Heap.get?_push_of_some _ h1, h2, n, h3⟩⟩)
      · rcases List.mem_cons.mp hb with rfl | hb
        · exact ⟨Nat.lt_succ_self _, .inl rfl⟩
        · rw [List.mem_singleton.mp hb]; exact ⟨Nat.lt_succ_of_lt lt, .inr ⟨o, h1, by rw [h2]; exact fun z => nomatch z⟩⟩
      · have W := Walks.tuple (prog := X.prog) (w := X.w) hA s.heap.objs.size a (Nat.ne_of_lt lt) vs
        have e : vs.size = xs.length := by have := len h4; simpa using this
        rw [← e]
        exact W.mono_item fun i x _ hx => each h4 (by simpa [PyData.canLay0] using lay) i x (by simpa using hx)
  · rename_i z
    cases hx
    cases r with | str _ ok hl =>
    obtain ⟨t, rfl⟩ := ru
    refine wpAny_pyIter_str fun o St W hst => ?_
    refine hQ o [s.heap.objs.size] St (fun b hb => by rw [List.mem_singleton.mp hb]; exact ⟨Nat.lt_succ_self _, .inl rfl⟩) (fun A' hA => ?_) hst
    have e : (z.cps.toList.map fun c => PyData.str ⟨#[c]⟩).length = z.cps.size := by simp
    rw [e]
    exact (W A' hA).mono_item fun i x hi ⟨c, t', hc, hx⟩ => ⟨_, by rw [List.getElem?_map, Array.getElem?_toList, hc]; rfl, by
      subst hx
      refine ⟨⟨_, .str _ _⟩, ?_⟩
      have := rep1 (g := gx tb X) (F := F) ok (List.mem_of_getElem? (by rw [Array.getElem?_toList]; exact hc))
      cases this with | str _ a b => simpa [PyData.canLay0] using a⟩
  · cases hx
/-- the item's truth at place j -/
def trG (bs : List Bool) (j : Nat) : Bool := bs.getD j false
theorem any_trG (bs : List Bool) : (List.range bs.length).any (trG bs) = bs.any id := by
  rw [Bool.eq_iff_iff, List.any_eq_true, List.any_eq_true]
  constructor
  · rintro ⟨j, hj, h⟩
    have hj' := List.mem_range.mp hj
    unfold trG at h
    rw [List.getD_eq_getElem?_getD, List.getElem?_eq_getElem hj'] at h
    exact ⟨bs[j], List.getElem_mem hj', h⟩
  · rintro ⟨b, hb, h⟩
    obtain ⟨j, hj, e⟩ := List.getElem_of_mem hb
    refine ⟨j, List.mem_range.mpr hj, ?_⟩
    unfold trG
    rw [List.getD_eq_getElem?_getD, List.getElem?_eq_getElem hj, e]
    exact h
theorem all_trG (bs : List Bool) : (List.range bs.length).all (trG bs) = bs.all id := by
  rw [Bool.eq_iff_iff, List.all_eq_true, List.all_eq_true]
  constructor
  · intro h b hb
    obtain ⟨j, hj, e⟩ := List.getElem_of_mem hb
    have q := h j (List.mem_range.mpr hj)
    unfold trG at q
    rw [List.getD_eq_getElem?_getD, List.getElem?_eq_getElem hj, e] at q
    exact q
  · intro h j hj
    have hj' := List.mem_range.mp hj
    unfold trG
    rw [List.getD_eq_getElem?_getD, List.getElem?_eq_getElem hj']
    exact h _ (List.getElem_mem hj')
/-- the captured names: frozen slots of the def -/
def CapOk (N : List Str) (sc scope : Scope) (sh : List Sl) (env : List PyData) (cap : List (Str × PyData)) : Prop := ∀ y d, (y, d) ∈ cap → scope.names.lookup y = some .free ∧ (sc.names.lookup y = some .cell ∨ sc.names.lookup y = some .free) ∧ ∃ j : Nat, N[j]? = some y ∧ sh[j]? = some .fr ∧ env[j]? = some d
theorem cap_nil {N : List Str} {sc scope : Scope} : CapOk N sc scope sh env [] := fun _ _ m => nomatch m
theorem cap_cons {N : List Str} {sc scope : Scope} {y : Str} {d : PyData} {cap : List (Str × PyData)} (j : Nat) (h1 : scope.names.lookup y = some .free) (h2 : sc.names.lookup y = some .cell ∨ sc.names.lookup y = some .free) (h4 : N[j]? = some y) (h5 : sh[j]? = some .fr) (h6 : env[j]? = some d)
    (h : CapOk N sc scope sh env cap) : CapOk N sc scope sh env ((y, d) :: cap) := fun z e m => by
  rcases List.mem_cons.mp m with q | q
  · cases q; exact ⟨h1, h2, j, h4, h5, h6⟩
  · exact h z e q
/-- the tests of all items, none of the data a dict -/
def genM (cap : List (Str × PyData)) (me : Option PyData) (fe : PyData → Option PyData) : Option (List Bool) := me.bind fun d0 => if (!d0.hasDict && cap.all fun p => !p.2.hasDict) = true then (pItm d0).bind fun xs => (xs.mapM fe).bind asBs else none
def anyG (cap : List (Str × PyData)) (me : Option PyData) (fe : PyData → Option PyData) : Option PyData := (genM cap me fe).map fun bs => .bool (bs.any id)
def allG (cap : List (Str × PyData)) (me : Option PyData) (fe : PyData → Option PyData) : Option PyData := (genM cap me fe).map fun bs => .bool (bs.all id)
theorem mapM_at {f : PyData → Option PyData} : ∀ {xs rs : List PyData}, xs.mapM f = some rs → rs.length = xs.length ∧ ∀ (i : Nat) (x : PyData), xs[i]? = some x → ∃ r, rs[i]? = some r ∧ f x = some r
  | [], rs, h => by
    have : rs = [] := by simpa using h.symm
    subst this
    exact ⟨rfl, fun i x e => by simp at e⟩
  | x :: xs, rs, h => by
    rw [List.mapM_cons] at h
    obtain ⟨r, h1, h⟩ := Option.bind_eq_some_iff.mp h
    obtain ⟨rs', h2, h⟩ := Option.bind_eq_some_iff.mp h
    have : rs = r :: rs' := by simpa using h.symm
    subst this
    obtain ⟨a, b⟩ := mapM_at h2
    refine ⟨by simp [a], fun i y e => ?_⟩
    cases i with
    | zero => simp at e; subst e; exact ⟨r, rfl, h1⟩
    | succ i => obtain ⟨q, c, d⟩ := b i y (by simpa using e); exact ⟨q, by simpa using c, d⟩
variable {pins : List (Addr × Obj)} {s : Shared} {σ : L2.St} {H : Hp}
/-- a captured name's cell -/
theorem cap_at {scope : Scope} {cap : List (Str × PyData)} {F : Hp} {A : AF} (I : Inv X pins σ H s) (s0 : St0 (gx tb X) sh env σ F H A) (hc : CapOk X.N X.env.scope scope sh env cap) {y : Str} {d : PyData} (m : (y, d) ∈ cap) (hd : d.hasDict = false) :
    scope.names.lookup y = some .free ∧ ∃ c u, X.env.cells.lookup y = some c ∧ s.heap.IsCell c (some u) ∧ RdD s.heap u d := by
  obtain ⟨h1, h2, j, h3, h4, h5⟩ := hc y d m
  refine ⟨h1, ?_⟩
  obtain ⟨x, hx, _, v, rfl, r⟩ := s0.get h4 h5
  obtain ⟨m, hn, hl⟩ := I.loc
  obtain ⟨u, ru, lk⟩ := hl j y v h3 hx (h2.elim (fun h => .inr (.inl h)) (fun h => .inr (.inr h)))
  obtain ⟨dp, lay⟩ := Rep.dp s0.good.sub d v r hd
  obtain ⟨as, rd⟩ := Dp.reads I d v u dp ru
  rcases lk with ⟨k, _⟩ | ⟨_, c, hc, hi⟩
  · exfalso
    have k : X.env.scope.names.lookup y = some .local := k
    rcases h2 with h | h <;> (rw [h] at k; cases k)
  · exact ⟨c, u, hc, hi, ⟨as, rd⟩, lay⟩
theorem clo_at {cells : List (Str × Addr)} {names : List (Str × NameKind)} {y : Str} {c : Addr} (h : names.lookup y = some .free) (hc : cells.lookup y = some c) : (cloFrom cells names []).lookup y = some c := by
  obtain ⟨c', e⟩ := L2.mem_lookup (L2.cloFrom_has (cells := cells) (acc := []) (PySem.mem_of_lookup h))
  rcases L2.cloFrom_mem (PySem.mem_of_lookup e) with q | ⟨_, q⟩
  · cases q
  · rw [e, q, hc]; rfl
/-- the generator, ready to be walked -/
def GReady (X : Cx) (tb : Addr → Prop) (pins : List (Addr × Obj)) (σ : L2.St) (F H : Hp) (bs : List Bool) (g : Addr) (s5 : Shared) : Prop :=
  ∃ (fp wr : List Addr) (G : Array GenState → Array GenState → Prop) (Fv : Nat → Value → Prop) (St : Nat → Shared → Prop), WalksS X.prog X.w X.A.in1 g fp wr G bs.length Fv St ∧ St 0 s5 ∧ TruthOf X.prog X.w X.A.in1 Fv (trG bs) ∧
    ∀ s', Moved wr G s5 s' → ∃ H2, Grow F H F H2 ∧ Inv X pins σ H2 s'
theorem gen_go {c P : Addr} {elt iter : Expr} {x : Str} {px gpos : Pos} {scope : Scope} {cap : List (Str × PyData)} {fe : PyData → Option PyData} {k : Nat} {Q' : Value → Shared → Prop} {F : Hp} {A : AF} {bs : List Bool}
    (hr : Room k X.A) (TB : GxR.TabB X.base X.mg c P) (hcode : X.env.code = .ref c) (htb : tb P) (S : GxR.GenS X.env scope x) (hc : CapOk X.N X.env.scope scope sh env cap) (hi : PE X iter (tE (gx tb X) sh env me))
    (hel : ∀ d, GE X.prog X.w X.mg scope (X.A.units + 8) elt ((x, d) :: cap) (fe d)) (hs : ∀ v, genFold iter X.env v = pure v) (I : Inv X pins σ H s) (s0 : St0 (gx tb X) sh env σ F H A) (hm : genM cap me fe = some bs)
    (hQ : ∀ g F1 H1 s5, Grow F H F1 H1 → GReady X tb pins σ F1 H1 bs g s5 → Q' (.ref g) s5) :
    wpAny (model X.prog X.w) X.A (eval (.GeneratorExp elt [⟨.Name x px, iter, [], 0⟩] scope gpos) X.env) Q' X.xe s := by
  obtain ⟨d0, hd0, hm⟩ := Option.bind_eq_some_iff.mp hm
  split at hm
  case isFalse => cases hm
  rename_i hnd
  simp only [Bool.and_eq_true, Bool.not_eq_true', List.all_eq_true] at hnd
  obtain ⟨xs, hxs, hm⟩ := Option.bind_eq_some_iff.mp hm
  obtain ⟨rs, hrs, hbs⟩ := Option.bind_eq_some_iff.mp hm
  have ers := asBs_eq hbs
  obtain ⟨hlen, hat⟩ := mapM_at hrs
  have hbl : bs.length = xs.length := by rw [← hlen, ers, List.length_map]
  have hbat : ∀ (i : Nat) (d : PyData), xs[i]? = some d → ∃ b, bs[i]? = some b ∧ fe d = some (.bool b) := fun i d e => by
    obtain ⟨r, h1, h2⟩ := hat i d e
    rw [ers, List.getElem?_map] at h1
    obtain ⟨b, h3, h4⟩ := Option.map_eq_some_iff.mp h1
    exact ⟨b, h3, by rw [h2, h4]⟩
  refine wpAny_GeneratorExp_walksQD hr.hd S.co (L2.closure_ok S.free) S.cell S.dot S.loc S.kind (by have := hr.dp; omega) ?_ hs
  refine thn (hi.run pins s σ H (fun v H1 => ∃ F1, Grow F H F1 H1 ∧ Rep (gx tb X) F1 v d0) I ⟨F, A, d0, s0, hd0, fun v F1 H1 w r => ⟨F1, w, r⟩⟩) fun xv s1 ⟨v, H1, I1, r1, F1, w1, p1⟩ => ?_
  have s1' := s0.grow w1
  obtain ⟨ps, hP, ht⟩ := s1'.tb P htb
  refine iter_go (tb := tb) I1 w1.good p1 hnd.1 r1 hxs fun o fp St hfp W hst => ?_
  have hPs : s1.heap.get? P = some { cls := .none, data := .fields ps } := I1.hok P _ hP
  have hPlt : P < s1.heap.objs.size := Heap.lt_size hPs
  have up1 : ∀ b u, s1.heap.get? b = some u → (s1.heap.push o).get? b = some u := fun b u e => Heap.get?_push_of_some _ e
  have cd : PySem.W.CodeHd (s1.heap.push o) c P := TB.code.keeps fun b u e => up1 b u (I1.bk b u e)
  have lim2 : (s1.heap.push o).NoLimit := I1.nolimit.push o
  have sz2 : (s1.heap.push o).objs.size = s1.heap.objs.size + 1 := Heap.size_push ..
  refine ⟨lim2, ?_⟩
  -- behind the code object: the table may have grown to ps ++ more
  suffices cont : ∀ (code : Value) (h3 : Heap) (tk : Nat) (more : Array Value), Heap.ExtBut P (s1.heap.push o) h3 → (s1.heap.push o).objs.size ≤ h3.objs.size → h3.get? P = some { cls := .none, data := .fields (ps ++ more) } → TriplesOk (ps ++ more).toList →
      wpAny (model X.prog X.w) X.A (builtinsFor X.env.globals X.env.builtins) (fun bi s₄ =>
        ∃ Ia fp wr n₀ Pf St₀ pz Fv, Value.ref s1.heap.objs.size = .ref Ia ∧ (∀ A' : Around, A'.handled = none → Walks X.prog X.w A' Ia fp wr n₀ Pf St₀) ∧ St₀ 0 s₄.heap ∧ (∀ b ∈ fp, b < s₄.heap.objs.size) ∧ s₄.heap.NoLimit ∧ cStatics ∉ wr ∧
          (∀ href : Heap, (∀ b o, s₄.heap.get? b = some o → href.get? b = some o) → QuietGenD X.prog X.w (genEnv scope (L2.cloFrom X.env.cells scope.names []) s₄.heap.objs.size code bi X.env) x [] elt (List.range s₄.heap.objs.size) wr Pf pz Fv href (X.A.depth + 1) (X.A.units + 8)) ∧
          (∀ a h₅ tk gs, gs.bare = true → s₄.heap.objs.size < a → h₅.objs.size = a + 1 → (∀ b o, s₄.heap.get? b = some o → h₅.get? b = some o) →
            WalksS X.prog X.w X.A.in4 a (a :: s₄.heap.objs.size :: List.range s₄.heap.objs.size) (s₄.heap.objs.size :: wr) (GenOnlyQ s₄.gens.size) (passing pz n₀ 0).length (fun j y => ∃ i, (passing pz n₀ 0)[j]? = some i ∧ Fv i y) (GenAt X.prog X.w X.A.in4 a s₄.gens.size s₄.heap.objs.size (List.range s₄.heap.objs.size) wr pz n₀ Fv) →
            GenAt X.prog X.w X.A.in4 a s₄.gens.size s₄.heap.objs.size (List.range s₄.heap.objs.size) wr pz n₀ Fv 0 { s₄ with gens := s₄.gens.push gs, toks := tk, heap := h₅ } →
            Q' (.ref a) { s₄ with gens := s₄.gens.push gs, toks := tk, heap := h₅ })) X.xe { s1 with heap := h3, toks := tk } by
    cases hf : codeAmong gpos ps.toList with
    | none =>
      refine wpAny_genexprCodeX hcode (cd.code (up1 _ _ hPs) ht) (cd.tab (up1 _ _ hPs)) hf fun c' h' tk hx hge hlt hco' _ htab' _ => ?_
      obtain ⟨o1, vs, f1, tf, fl, tg, inF, tx, tt, op, _, _, _, _, _, _, _, _, _, htr, _⟩ := hco'
      exact cont _ h' tk _ hx (Nat.le_trans hge (Nat.le_of_lt hlt)) htab'.2 htr
    | some cv =>
      refine wpAny_genexprCode_hit hcode (cd.code (up1 _ _ hPs) ht) hf ?_
      exact cont cv (s1.heap.push o) s1.toks #[] (Heap.ExtBut.refl _ _) (Nat.le_refl _) (by simpa using up1 _ _ hPs) (by simpa using ht)
  intro code h3 tk more hx hsz hP3 ht3
  obtain ⟨bm, ob, e1, e2, e3, e4, e5, e6, e7, e8⟩ := TB.bm
  have sz3 : s1.heap.objs.size + 1 ≤ h3.objs.size := by rw [← sz2]; exact hsz
  have hcl : cStatics < s1.heap.objs.size := let ⟨_, hns, _⟩ := I1.nolimit; hns.lt
  have hcP : cStatics ≠ P := fun e => by
    obtain ⟨_, ⟨o', es, ep, ho, hd, _⟩, _⟩ := I1.nolimit
    rw [e, hPs] at ho; cases ho; cases hd
  have keep3 : ∀ b u, b ≠ P → s1.heap.get? b = some u → h3.get? b = some u := fun b u hb e => hx b u hb (up1 b u e)
  have base3 : ∀ b u, X.base.get? b = some u → b ≠ P → h3.get? b = some u := fun b u e hb => keep3 b u hb (I1.bk b u e)
  have ng3 : h3.Ns mainGlobals X.mg := ((I1.mod.glob.keeps I1.bk).push o).extBut hx TB.gP
  refine wpAny_builtinsFor (m := X.mg) (by rw [I1.ok.glob]; exact ng3) e1 e2 (keep3 _ _ e4 (I1.bk _ _ e5)) e6 e7 e8 ?_
  refine ⟨s1.heap.objs.size, fp, [s1.heap.objs.size], xs.length, ItR s1.heap xs, St, (fun _ => true), (fun i y => ∃ b, bs[i]? = some b ∧ y = .bool b), rfl, W, ?_, ?_, lim2.extBut hx hcP, ?_, ?_, ?_⟩
  · refine (W X.A hr.hd).frame _ _ _ hst fun b hb u e => hx b u (fun z => ?_) e
    rcases (hfp b hb).2 with q | ⟨o', h1, h2⟩
    · exact Nat.ne_of_lt hPlt (z.symm.trans q)
    · rw [z, hPs] at h1; cases h1; exact h2 rfl
  · exact fun b hb => Nat.lt_of_lt_of_le (hfp b hb).1 (by rw [← sz2]; exact hsz)
  · exact fun z => Nat.ne_of_lt hcl (List.mem_singleton.mp z)
  · intro href hhref
    refine ⟨fun A' E' i v s₂ m₂ hA hdp hu hPv hn hm hk => ?_, fun A' E' i v s₂ m₂ hA hdp hu hPv hpz hn hm hk => ?_⟩
    · simp only [List.forIn_nil]
      exact wpAny_pure ⟨rfl, GxR.keeps_refl _⟩
    · have pres : ∀ b u, b ≠ P → s1.heap.get? b = some u → s₂.heap.get? b = some u := fun b u hb e => by
        have lt := Heap.lt_size e
        exact hk b (List.mem_range.mpr (Nat.lt_of_lt_of_le (Nat.lt_succ_of_lt lt) sz3)) (fun z => Nat.ne_of_lt lt (List.mem_singleton.mp z)) u (hhref b u (keep3 b u hb e))
      have rdd : ∀ {u : Value} {d : PyData}, RdD s1.heap u d → RdD s₂.heap u d := fun r => ⟨r.1.imp fun as q => reads_but (P := P) (fun o' e => by rw [hPs] at e; cases e; rfl) pres _ _ _ q, r.2⟩
      have ns2 : ∀ {a m}, a ≠ P → s1.heap.Ns a m → s₂.heap.Ns a m := fun ha q => q.at' fun o' e => pres _ o' ha e
      obtain ⟨d, hxd, rd⟩ := hPv
      obtain ⟨b, hb, hfe⟩ := hbat i d hxd
      obtain ⟨mb, hb1, hb2⟩ := I1.mod.blt
      have bP : builtinsNs ≠ P := fun z => by
        have q := hb1.keeps I1.bk
        obtain ⟨o', es, ep, ho, hd, _⟩ := q
        rw [z, hPs] at ho; cases ho; cases hd
      refine wpAny_mono (hel d _ A' E' s₂ (.bool b) hu ⟨rfl, S.kind, I1.ok.glob, rfl, ns2 TB.gP (I1.mod.glob.keeps I1.bk), ⟨mb, ns2 bP (hb1.keeps I1.bk), hb2⟩, m₂, hn, fun y e m => ?_⟩ hfe) (fun y s3 r => ⟨⟨b, hb, bool_of r.1⟩, r.2⟩) fun _ _ e => e
      rcases List.mem_cons.mp m with q | q
      · cases q
        exact .inl ⟨S.loc, v, hm, rdd rd⟩
      · obtain ⟨h1, cc, u, h2, ⟨oc, ho, hdc⟩, h4⟩ := cap_at I1 s1' hc q (by have := hnd.2 _ q; simpa using this)
        refine .inr ⟨h1, cc, u, clo_at h1 h2, ⟨oc, pres _ _ (fun z => ?_) ho, hdc⟩, rdd h4⟩
        rw [z, hPs] at ho; cases ho; cases hdc
  · intro g h5 tk5 gs hgb hag hsz5 hk5 W5 hat5
    simp only [GxR.passing_true, List.length_range] at W5
    rw [← hbl] at W5 hat5
    refine hQ g F1 H1 _ w1 ⟨_, _, _, _, _, W5.in4_1, hat5, ?_, fun s' hm => ?_⟩
    · intro j y sj Qj Ej hy hQj
      obtain ⟨i, hij, b, hb, rfl⟩ := hy
      obtain ⟨hj, ej⟩ := List.getElem?_eq_some_iff.mp hij
      rw [List.getElem_range] at ej
      subst ej
      refine wpAny_truthy_bool ?_
      have e : trG bs j = b := by unfold trG; rw [List.getD_eq_getElem?_getD, hb]; rfl
      rw [e] at hQj
      exact hQj
    · have nwr : ∀ b u, s1.heap.get? b = some u → b ∉ h3.objs.size :: [s1.heap.objs.size] := fun b u e hb => by
        have hl := Heap.lt_size e
        have h9 : s1.heap.objs.size < h3.objs.size := Nat.lt_of_lt_of_le (by rw [sz2]; exact Nat.lt_succ_self _) hsz
        rcases List.mem_cons.mp hb with z | z
        · exact absurd (Nat.lt_trans hl h9) (by rw [z]; exact Nat.lt_irrefl _)
        · exact absurd hl (by rw [List.mem_singleton.mp z]; exact Nat.lt_irrefl _)
      have J := GxR.inv_tab (more := more) (h' := s'.heap) (g' := s'.gens) (d' := s'.drawn) (t' := s'.toks) I1 hP (fun b u hb e => hm.heap b u (nwr b u e) (hk5 b u (keep3 b u hb e))) (hm.heap P _ (nwr P _ hPs) (hk5 P _ hP3)) (AllBare.movedS (I1.bare.push hgb) hm)
      rw [GxR.sh_eta s1 s' hm.os] at J
      refine ⟨_, ⟨.refl _, fun a u e => ?_, ⟨fun a u e => ?_, w1.good.notb⟩, fun a h h' => absurd h h'⟩, J⟩
      · by_cases z : a = P
        · rw [z, hP] at e; cases e
          exact .inr ⟨⟨ps, rfl⟩, _, by rw [z]; exact upd_same, ht3⟩
        · exact .inl (by rw [upd_ne z]; exact e)
      · have e' := w1.good.sub a u e
        rw [upd_ne (fun z => by rw [z, hP] at e'; cases e'; exact w1.good.notb a ps e)]; exact e'
theorem x_anyG {c P : Addr} {elt iter : Expr} {x : Str} {px p pos gpos : Pos} {scope : Scope} {cap : List (Str × PyData)} {fe : PyData → Option PyData} {k : Nat}
    (hr : Room k X.A) (hg : Gl X "any") (hm : X.mg "any" = none) (TB : GxR.TabB X.base X.mg c P) (hcode : X.env.code = .ref c) (htb : tb P) (S : GxR.GenS X.env scope x) (hc : CapOk X.N X.env.scope scope sh env cap) (hi : PE X iter (tE (gx tb X) sh env me))
    (hel : ∀ d, GE X.prog X.w X.mg scope (X.A.units + 8) elt ((x, d) :: cap) (fe d)) (hs : ∀ v, genFold iter X.env v = pure v := by intro _; rfl)
    (he : starEach [.GeneratorExp elt [⟨.Name x px, iter, [], 0⟩] scope gpos] X.env = (false, eval (.GeneratorExp elt [⟨.Name x px, iter, [], 0⟩] scope gpos) X.env) :: starEach [] X.env := by rfl) :
    PE X (.Call (.Name "any" p) [.GeneratorExp elt [⟨.Name x px, iter, [], 0⟩] scope gpos] [] pos) (tE (gx tb X) sh env (anyG cap me fe)) := by
  refine ⟨fun pins s σ H Q I ⟨F, A, d, s0, e, q⟩ => ?_⟩
  obtain ⟨bs, hbs, rfl⟩ := Option.map_eq_some_iff.mp e
  refine wpAny_Call_Name_kw (ld_blt I hg hm bt_any ?_)
  refine PyProof.Rows.callWith_builtin1 ?_ he (by rfl)
  rw [he]
  refine Calls.spliced_cons (gen_go hr TB hcode htb S hc hi hel hs I s0 hbs fun g F1 H1 s5 w1 hG => ?_)
  obtain ⟨fp, wr, G, Fv, St, W, hst, htr, hI⟩ := hG
  refine Calls.spliced_nil ?_
  refine call_any_walkS (W.self 0 _ _ _ hst ⟨g, fp, wr, G, _, Fv, St, _, rfl, W, hst, htr, fun s' hmv => ?_⟩)
  obtain ⟨H2, w2, J⟩ := hI s' hmv
  rw [any_trG]
  exact ⟨.bl _, H2, J, rfl, q _ F1 H2 (w1.trans w2) (.bl _)⟩
theorem x_allG {c P : Addr} {elt iter : Expr} {x : Str} {px p pos gpos : Pos} {scope : Scope} {cap : List (Str × PyData)} {fe : PyData → Option PyData} {k : Nat}
    (hr : Room k X.A) (hg : Gl X "all") (hm : X.mg "all" = none) (TB : GxR.TabB X.base X.mg c P) (hcode : X.env.code = .ref c) (htb : tb P) (S : GxR.GenS X.env scope x) (hc : CapOk X.N X.env.scope scope sh env cap) (hi : PE X iter (tE (gx tb X) sh env me))
    (hel : ∀ d, GE X.prog X.w X.mg scope (X.A.units + 8) elt ((x, d) :: cap) (fe d)) (hs : ∀ v, genFold iter X.env v = pure v := by intro _; rfl)
    (he : starEach [.GeneratorExp elt [⟨.Name x px, iter, [], 0⟩] scope gpos] X.env = (false, eval (.GeneratorExp elt [⟨.Name x px, iter, [], 0⟩] scope gpos) X.env) :: starEach [] X.env := by rfl) :
    PE X (.Call (.Name "all" p) [.GeneratorExp elt [⟨.Name x px, iter, [], 0⟩] scope gpos] [] pos) (tE (gx tb X) sh env (allG cap me fe)) := by
  refine ⟨fun pins s σ H Q I ⟨F, A, d, s0, e, q⟩ => ?_⟩
  obtain ⟨bs, hbs, rfl⟩ := Option.map_eq_some_iff.mp e
  refine wpAny_Call_Name_kw (ld_blt I hg hm bt_all ?_)
  refine PyProof.Rows.callWith_builtin1 ?_ he (by rfl)
  rw [he]
  refine Calls.spliced_cons (gen_go hr TB hcode htb S hc hi hel hs I s0 hbs fun g F1 H1 s5 w1 hG => ?_)
  obtain ⟨fp, wr, G, Fv, St, W, hst, htr, hI⟩ := hG
  refine Calls.spliced_nil ?_
  refine call_all_walkS (W.self 0 _ _ _ hst ⟨g, fp, wr, G, _, Fv, St, _, rfl, W, hst, htr, fun s' hmv => ?_⟩)
  obtain ⟨H2, w2, J⟩ := hI s' hmv
  rw [all_trG]
  exact ⟨.bl _, H2, J, rfl, q _ F1 H2 (w1.trans w2) (.bl _)⟩
end
end Mir
namespace Mir
open PySem PySem.Spec PyProof.Rows L2
/-- a def whose code object is known -/
theorem f_okG {P : Program} {w : World} {K : PySem.W.Frag} {mg : Str → Option Value} {base : Heap} {x qual : Str} {st : Stmt} {f c : Addr} {fd : FuncData} {N ps : List Str} {k : Nat} {ks : List Sl} {m : List PyData → Option PyData} {tb : Addr → Prop}
    (F : Fun K x qual st f fd) (S : FnScope N ps (defScope st)) (hc : fd.code = .ref c) (hl : ps.length = ks.length) (hn : ks.length ≤ N.length)
    (h : ∀ (A : Around) (outer : List Env) (s : Shared) (H : Hp) (E : XK) (ds : List PyData), Room k (A.deeper (envOfC qual (defScope st) s.heap.objs.size f (.ref c))) → ds.length = ks.length →
      PSs (cxOf CX0 P w K mg base N qual (defScope st) f (.ref c) A outer s H E).nox (defBody st) (tS ⟨P, w, K, tb⟩ (ks ++ List.replicate (N.length - ks.length) .un) (ds ++ List.replicate (N.length - ks.length) .none) (kBody .fr N.length) (m ds))) :
    FnOk P w K mg base CX0 (k + 1) f fd ps (spD ⟨P, w, K, tb⟩ ks .fr m) := by
  obtain ⟨oc, od, kV, doc, pm, an, cdv, ct, osl, rfl, lk, hcd⟩ := F.ex
  obtain rfl : cdv = .ref c := hc
  refine fn_of lk hcd S (fun vs H Q E h => ?_) fun A outer s H vs Q E hr hsp => ?_
  · obtain ⟨_, _, _, _, _, l1, _⟩ := h
    rw [l1, hl]
  · obtain ⟨ds, hds, go⟩ := spD_go hn rfl hsp
    exact ⟨_, (h A outer s H E ds hr hds).nox, go _ fun _ _ _ q => q⟩
/-- the tables of the code objects cs -/
def tbOf (cs : List (Addr × Addr)) (P : Addr) : Prop := ∃ p ∈ cs, p.2 = P
theorem law_spT {P : Program} {w : World} {K : PySem.W.Frag} {cs : List (Addr × Addr)} {m : PyData → Option PyData} (hm : ∀ ns : List Int, ns.length ≤ 63 → m (.list (ns.map .int)) = some (.bool true)) (H : Hp) (a : Addr) (ns : List Int) (hl : ns.length ≤ 63)
    (ht : ∀ p ∈ cs, H p.2 = some (.tbl #[])) (hs : SqL K H a (ns.map V.int)) : spD ⟨P, w, K, tbOf cs⟩ [.sc] .fr (ap1 m) [.ref a] H (fun v _ => v = .bl true) fun _ _ _ => False := by
  obtain ⟨F, gd, hF⟩ : ∃ F : Hp, Good F H ∧ SqL K F a (ns.map V.int) := by
    rcases hs with (h | ⟨o, h⟩) | h
    · refine ⟨upd (fun _ => none) a (.lst (ns.map V.int)), ⟨fun b u e => ?_, fun b ps e => ?_⟩, .inl (.inl upd_same)⟩
      · by_cases z : b = a
        · rw [z, upd_same] at e; cases e; rw [z]; exact h
        · rw [upd_ne z] at e; cases e
      · by_cases z : b = a
        · rw [z, upd_same] at e; cases e
        · rw [upd_ne z] at e; cases e
    · refine ⟨upd (fun _ => none) a (.frz o (.lst (ns.map V.int))), ⟨fun b u e => ?_, fun b ps e => ?_⟩, .inl (.inr ⟨o, upd_same⟩)⟩
      · by_cases z : b = a
        · rw [z, upd_same] at e; cases e; rw [z]; exact h
        · rw [upd_ne z] at e; cases e
      · by_cases z : b = a
        · rw [z, upd_same] at e; cases e
        · rw [upd_ne z] at e; cases e
    · exact ⟨fun _ => none, ⟨(fun _ _ e => nomatch e), (fun _ _ e => nomatch e)⟩, .inr h⟩
  refine ⟨F, [.list (ns.map .int)], .bool true, gd, fun Q t => ?_, rfl, rfl, fun i s v d h1 h2 h3 => ?_, hm ns hl, fun v F' H' Bs w o _ _ => ?_⟩
  · obtain ⟨p, hp, rfl⟩ := t
    exact ⟨_, ht p hp, trivial⟩
  · cases i with
    | zero => cases h1; cases h2; cases h3; exact ⟨rfl, _, rfl, a, ns, rfl, rfl, hF⟩
    | succ i => simp at h1
  · cases o.2; rfl
/-- the end of a law with generator expressions: what is known of the defs' tables -/
theorem walkG {l : PySem.W.OpenLaw} {k : Nat} {q : Program} {loose : List Str} {XP : (Str → Option Value) → Heap → Prop} {YP : World → Heap → Prop} {d : DefRec} {K : Params → PySem.W.Frag} {m : PyData → Option PyData} (hn : l.most = some 63) (hdf : d.params.defaults = []) (hr : Room k callerA)
    (hY : ∀ (w : World) (h : Heap), YP w h → (K w.params).In h)
    (hm : ∀ ns : List Int, ns.length ≤ 63 → m (.list (ns.map .int)) = some (.bool true))
    (F : ∀ (w : World) (mg : Str → Option Value) (fa : Addr) (h : Heap), (K w.params).In h → h.Ns mainGlobals mg → mg d.name = some (.ref fa) →
      (∀ (x : Str) (c P : Addr), ((recsOf q).any fun e => e.name == x) = true → PySem.W.tabIn (K w.params) x = some (c, P) → PySem.W.CodeHd h c P ∧ h.get? P = some { cls := .none, data := .fields #[] }) →
      ∃ (fd : FuncData) (cs : List (Addr × Addr)), (∀ p ∈ cs, h.get? p.2 = some { cls := .none, data := .fields #[] }) ∧ (∀ p ∈ cs, (K w.params).lookup p.2 = none) ∧ (∀ p ∈ cs, PySem.W.CodeHd h p.1 p.2) ∧ (∀ (s : Shared) (u : Value), BindsTo s fd ⟨[u], []⟩ [("script", u)]) ∧
        ∀ base : Heap, (K w.params).In base → base.Ns mainGlobals mg → (∀ p ∈ cs, GxR.TabB base mg p.1 p.2) → FnOk l.prog w (K w.params) mg base CX0 k fa fd ["script"] (spD ⟨l.prog, w, K w.params, tbOf cs⟩ [.sc] .fr (ap1 m))) :
    PySem.W.WalkO q loose XP YP l.row.toRowW d [] (fun f vs => PySem.call f vs) := by
  refine Att.attach_callB hn hdf fun w s₀ s₁ mg mb fa o pm cd doc a vs ns G Y ho hd hcd hmg hobj hints hlen hbits hg => ?_
  have KX := hY w _ Y
  obtain ⟨fd, cs, h1, h2, h3, h4, h5⟩ := F w mg fa _ KX G.T.g hmg fun x c P e t => by
    obtain ⟨d', hd'⟩ := Option.isSome_iff_exists.mp (List.find?_isSome.mpr (List.any_eq_true.mp e))
    exact PySem.W.tab_of G.T KX hd' t
  exact LamX.law_callTs KX G.T.g G.T.b G.T.builtins G.T.nolimit hg h1 h2 h3 G.T.bmain hobj hints (Nat.le_trans hlen (by decide)) hr (fun base a b c => h5 base a b fun p hp => ⟨(c p hp).code, (c p hp).bm, (c p hp).gP⟩) h4 (fun H hH hS => law_spT hm H a ns hlen hH hS) fun _ _ _ z => z
theorem tab_mk {K : PySem.W.Frag} {x : Str} {f c P : Addr} {fd : FuncData} {oc e : Value} {od dd : Option Addr} {sl sl2 : Array (Option Value)} {vs : Array Value} (a : PySem.W.nsIn K mainGlobals x = some (some (.ref f))) (l : K.lookup f = some ⟨oc, od, .func fd, sl⟩) (r : fd.code = .ref c)
    (p : K.lookup c = some ⟨e, dd, .fields vs, sl2⟩) (q : vs[11]? = some (.ref P)) : PySem.W.tabIn K x = some (c, P) := by
  unfold PySem.W.tabIn
  simp only [a, l, r, p, q]
theorem gU {k : Nat} {A : Around} (hr : Room k A) : A.units + 8 + 100 < cLine := by have := hr.un; omega
/-- the captured names of a generator's scope -/
def freesOf (ns : List (Str × NameKind)) : List Str := ns.filterMap fun y => match y.2 with
  | .free => some y.1
  | _ => none
def genC (scope : Scope) (x : Str) : Bool := (match scope.kind with | .function => true | _ => false) && !scope.isCoroutine && (scope.names.all fun y => decide (y.2 ≠ .cell)) && decide (scope.names.lookup (".0" : Str) = some NameKind.local) && decide (scope.names.lookup x = some NameKind.local)
theorem genS_by {env : Env} {scope : Scope} {x : Str} (h : genC scope x = true) (hf : ∀ y ∈ freesOf scope.names, ∃ c, env.cells.lookup y = some c) : GxR.GenS env scope x := by
  unfold genC at h
  simp only [Bool.and_eq_true, List.all_eq_true, decide_eq_true_eq, Bool.not_eq_true'] at h
  obtain ⟨⟨⟨⟨h1, h2⟩, h3⟩, h4⟩, h5⟩ := h
  refine ⟨?_, h2, h3, h4, h5, fun y hy e => hf y.1 ?_⟩
  · split at h1
    · assumption
    · cases h1
  · unfold freesOf
    rw [List.mem_filterMap]
    exact ⟨y, hy, by rw [e]⟩
theorem as0 {α : Type} {P : α → Prop} : ∀ j ∈ ([] : List α), P j := fun _ m => nomatch m
theorem as1 {α : Type} {P : α → Prop} {i : α} {is : List α} (h : P i) (k : ∀ j ∈ is, P j) : ∀ j ∈ i :: is, P j := fun j m => (List.mem_cons.mp m).elim (fun e => e ▸ h) (k j)
/-- a def's code object with its table -/
structure TbAt (mg : Str → Option Value) (base : Heap) (tb : Addr → Prop) (c P : Addr) : Prop where
  tab : GxR.TabB base mg c P
  is : tb P
end Mir
namespace Mir
open PySem PySem.Spec PyProof.Rows L2
/-! ### in, ==, != in elements -/
section
variable {U : Nat}
theorem gc_in (hU : U + 100 < cLine) : GCmp U .In cIn := by
  intro prog w A E s x y a b t Q hu ⟨⟨as, ra⟩, ca⟩ ⟨⟨bs, rb⟩, cb⟩ e q
  unfold cIn at e
  split at e
  · split at e
    · rename_i h
      rw [Bool.and_eq_true] at h
      cases e
      have := pl_dp h.1
      exact SeqAt.in_list_reads rb ra (by simpa [PyData.canLay0] using cb) ca (by omega) q
    · cases e
  · split at e
    · rename_i h
      rw [Bool.and_eq_true] at h
      cases e
      have := pl_dp h.1
      exact SeqAt.in_tuple_reads rb ra (by simpa [PyData.canLay0] using cb) ca (by omega) q
    · cases e
  · split at e
    · rename_i y'
      split at e
      · rename_i sg hs
        cases e
        cases ra; cases rb
        have ey : y' = ⟨#[sg]⟩ := W.str_of_cps hs
        subst ey
        exact PyProof.Rows.in_str (by rw [PySem.StrLaws.found_one]; exact q)
      · cases e
    · cases e
  · cases e
theorem gc_eq (hU : U + 100 < cLine) : GCmp U .Eq cEq := by
  intro prog w A E s x y a b t Q hu ⟨⟨as, ra⟩, ca⟩ ⟨⟨bs, rb⟩, cb⟩ e q
  unfold cEq at e
  split at e
  · rename_i h
    rw [Bool.and_eq_true] at h
    cases e
    exact SeqAt.compareEq_shaped ra rb (pl_sh h.1 ca) (pl_sh h.2 cb) (by omega) q
  · cases e
theorem gc_ne (hU : U + 100 < cLine) : GCmp U .NotEq cNe := by
  intro prog w A E s x y a b t Q hu ⟨⟨as, ra⟩, ca⟩ ⟨⟨bs, rb⟩, cb⟩ e q
  unfold cNe at e
  split at e
  · rename_i h
    rw [Bool.and_eq_true] at h
    cases e
    exact SeqAt.compareNe_shaped ra rb (pl_sh h.1 ca) (pl_sh h.2 cb) (by omega) q
  · cases e
end
/-! ### xs.index(e) -/
def pIndex : PyData → PyData → Option PyData
  | .list ds, d => if (pl (.list ds) && pl d) = true then (ds.findIdx? fun z => PyData.eqv z d).map fun j => .int (j : Nat) else none
  | _, _ => none
section
variable {X : Cx} {tb : Addr → Prop} {o e : Expr} {sh : List Sl} {env : List PyData} {m1 m2 : Option PyData} {apos cpos : Pos} {k : Nat}
theorem x_index (hr : Room k X.A) (ho : PE X o (tV (gx tb X) sh env m1)) (ha : PE X e (tV (gx tb X) sh env m2)) (hbase : attributeBase o "index" X.env (eval o X.env) = eval o X.env := by rfl)
    (hfew : ((backTo cpos (starEach [e] X.env)).all (fun x => !x.1) && (backToKw cpos (keywordEach [] X.env)).all (fun x => x.1.isSome) && decide ([e].length + ([] : List Keyword).length + (if ([] : List Keyword).isEmpty then 0 else 1) < 30)) = true := by rfl)
    (hline : (apos.endLine == cpos.line) = true := by rfl) (hs : starEach [e] X.env = (false, eval e X.env) :: starEach [] X.env := by rfl) (hplain : (backTo cpos (starEach [] X.env)).any (·.1) = false := by rfl) :
    PE X (.Call (.Attribute o "index" apos) [e] [] cpos) (tE (gx tb X) sh env (b2 pIndex m1 m2)) :=
  (pe_bm PySem.F.plainAttrs_list PySem.F.slot_list_index PySem.F.type_list_index (mt_indexD (by have := hr.un; omega)) ho (pa_cons ha pa_nil hs) hbase hfew hline hs hplain).imp fun σ H Q ⟨F, A, d, s, e, q⟩ => by
    obtain ⟨a, ha, e⟩ := Option.bind_eq_some_iff.mp e
    obtain ⟨b, hb, e⟩ := Option.bind_eq_some_iff.mp e
    unfold pIndex at e
    split at e
    · split at e
      · rename_i ds db h
        rw [Bool.and_eq_true] at h
        obtain ⟨j, hj, rfl⟩ := Option.map_eq_some_iff.mp e
        refine ⟨F, A, _, s, ha, fun v F1 H1 w1 p1 => ?_⟩
        obtain ⟨l, vs, rfl, hl, rl⟩ := id p1
        refine ⟨.inl ⟨rfl, vs, .inl (.inl hl)⟩, F1, A, b, s.grow w1, hb, fun u F2 H2 w2 p2 => ?_⟩
        have p1' := w2.view p1
        obtain ⟨d1, c1⟩ := View.dp w2.good p1' (pl_nd h.1)
        obtain ⟨d2, c2⟩ := View.dp w2.good p2 (pl_nd h.2)
        obtain ⟨hlt, hz, hno⟩ := List.findIdx?_eq_some_iff_getElem.mp hj
        refine ⟨l, u, b, ds, j, ds[j], rfl, rfl, d1, d2, pl_sh h.1 c1, pl_sh h.2 c2, List.getElem?_eq_getElem hlt, hz, fun m z' hm hz' => ?_, q _ F2 H2 (w1.trans w2) (.int _)⟩
        have := hno m hm
        rw [List.getElem?_eq_getElem (by omega)] at hz'
        cases hz'
        simpa using this
      · cases e
    · cases e
end
end Mir
namespace Mir
open PySem PySem.Spec PyProof.Rows L2
/-! ### words over letters, lists of texts -/
structure Wd (ls : List Nat) (B : Nat) (z : Str) : Prop where
  len : z.length ≤ B
  mem : ∀ c ∈ z.cps.toList, c ∈ ls
theorem Wd.app {ls : List Nat} {A B : Nat} {a b : Str} (x : Wd ls A a) (y : Wd ls B b) : Wd ls (A + B) (a ++ b) := ⟨by rw [len_app]; have := x.len; have := y.len; omega, fun c m => (mem_app m).elim (x.mem c) (y.mem c)⟩
theorem Wd.le {ls : List Nat} {A B : Nat} {a : Str} (x : Wd ls A a) (h : A ≤ B) : Wd ls B a := ⟨Nat.le_trans x.len h, x.mem⟩
theorem Wd.cut {ls : List Nat} {A : Nat} {a : Str} (x : Wd ls A a) (lo hi : Option Int) : Wd ls A (cutS a lo hi) := ⟨Nat.le_trans (cut_len a lo hi) x.len, fun c m => x.mem c (cut_mem m)⟩
theorem cut_to_len {z : Str} {v : Int} (h : 0 ≤ v) : ((cutS z none (some v)).length : Int) ≤ v := by
  rw [← len_eq, cut_to z h, List.length_take]; omega
theorem Wd.rep {ls : List Nat} {A : Nat} {a : Str} {n : Int} (x : Wd ls A a) (k : Nat) (h : n.toNat ≤ k) : Wd ls (A * k) (repS a n) := ⟨by rw [len_rep]; exact Nat.mul_le_mul x.len h, fun c m => x.mem c (rep_mem m)⟩
theorem wd_nil {ls : List Nat} : Wd ls 0 "" := ⟨Nat.le_refl _, fun _ m => nomatch m⟩
theorem wd_sgn {ls : List Nat} {c : Nat} (h : c ∈ ls) : Wd ls 1 ⟨#[c]⟩ := ⟨Nat.le_refl 1, fun x m => by
  have e : x = c := by simpa using m
  rw [e]; exact h⟩
theorem Wd.run {ls : List Nat} {A : Nat} {a : Str} (x : Wd ls A a) (h : ∀ c ∈ ls, 97 ≤ c ∧ c ≤ 122) : IsRun a := fun c m => h c (x.mem c m)
theorem at_map {α β : Type} {f : α → β} {xs : List α} {i : Int} (h0 : 0 ≤ i) (h : i < xs.length) : atI (xs.map f) i = some (f (xs[i.toNat]'(by omega))) := by
  rw [at_int (xs := xs.map f) h0 (by simpa using h), List.getElem_map]
/-- drawn numbers -/
def Dr (ds : List Int) (n : Nat) : Prop := ds.length = n ∧ ∀ d ∈ ds, 0 ≤ d ∧ d < 5040
theorem Dr.at {ds : List Int} {n : Nat} (h : Dr ds n) {i : Int} (h0 : 0 ≤ i) (h1 : i < n) : ∃ x : Int, atI (ds.map PyData.int) i = some (.int x) ∧ 0 ≤ x ∧ x < 5040 :=
  ⟨_, at_map h0 (by rw [h.1]; exact h1), h.2 _ (List.getElem_mem _)⟩
theorem app_str {zs : List Str} {z : Str} (h : zs.length < 16777216) : pApp (.list (zs.map .str)) (.str z) = some (.list ((zs ++ [z]).map .str)) := by
  show (if _ then _ else _) = _
  rw [if_pos (by simpa using h), List.map_append]; rfl
theorem strs_of {P : Str → Prop} : ∀ {ys : List PyData}, (∀ y ∈ ys, ∃ z : Str, y = .str z ∧ P z) → ∃ zs : List Str, ys = zs.map .str ∧ ∀ z ∈ zs, P z
  | [], _ => ⟨[], rfl, (fun _ m => nomatch m)⟩
  | y :: ys, h => by
    obtain ⟨z, rfl, hz⟩ := h y (by simp)
    obtain ⟨zs, rfl, hzs⟩ := strs_of fun y m => h y (List.mem_cons_of_mem _ m)
    exact ⟨z :: zs, rfl, fun w m => (List.mem_cons.mp m).elim (fun e => e ▸ hz) (hzs w)⟩
theorem all_ix {ys : List PyData} {P : PyData → Prop} (h : ∀ (i : Nat) (y : PyData), ys[i]? = some y → P y) : ∀ y ∈ ys, P y := fun y m => by
  obtain ⟨i, hi, rfl⟩ := List.getElem_of_mem m
  exact h i _ (List.getElem?_eq_getElem hi)
theorem mod_pos (x : Int) {n : Int} (h : 0 < n) : 0 ≤ x % n ∧ x % n < n := ⟨Int.emod_nonneg x (by omega), Int.emod_lt_of_pos x h⟩
/-- a sign of a list of letters -/
theorem sgn_at {ls : List Nat} (x : Int) (h : 1 ≤ ls.length) : ∃ c ∈ ls, atI (ls.map sgn) (x % (ls.length : Int)) = some (sgn c) := by
  obtain ⟨a, b⟩ := mod_pos x (n := ls.length) (by omega)
  exact ⟨_, List.getElem_mem _, at_map a b⟩
end Mir
namespace Mir
open PySem PySem.Spec PyProof.Rows L2
theorem forG_go {τ ρ : Type} {f : τ → PyData → Option (Ctl τ ρ)} {P : ρ → Prop} (I : Nat → τ → Prop) (J : τ → Prop) : ∀ (xs : List PyData) (t0 : τ) (j : Nat), I j t0 →
    (∀ (i : Nat) t x, xs[i]? = some x → I (j + i) t → Sat (f t x) fun c => match c with | .nx t' => I (j + i + 1) t' | .bk t' => J t' | .rt r => P r) → Sat (forC f xs t0) fun c => match c with | .nx t' => I (j + xs.length) t' | .bk t' => J t' | .rt r => P r
  | [], t0, j, h0, _ => ⟨_, rfl, h0⟩
  | x :: xs, t0, j, h0, hs => by
    obtain ⟨c, h1, h2⟩ := hs 0 t0 x rfl h0
    unfold forC
    rw [h1, Option.bind_some]
    cases c with
    | nx t' =>
      have h3 := forG_go I J xs t' (j + 1) h2 fun i t y hy hI => by
        have e : j + 1 + i = j + (i + 1) := by omega
        rw [e] at hI ⊢
        exact hs (i + 1) t y (by simpa using hy) hI
      rw [List.length_cons, show j + (xs.length + 1) = j + 1 + xs.length by omega]
      exact h3
    | bk t' => exact ⟨_, rfl, h2⟩
    | rt r => exact ⟨_, rfl, h2⟩
/-- a loop that may break or return -/
theorem sat_forG {τ ρ δ : Type} {mi : Option (List PyData)} {mg : PyData → Option δ} {fb : τ → δ → Option (Ctl τ ρ)} {t0 : τ} {k : τ → Option ρ} {P : ρ → Prop} (I : Nat → τ → Prop) (J : τ → Prop) (xs : List PyData) (hm : mi = some xs) (h0 : I 0 t0)
    (hs : ∀ (i : Nat) t x, xs[i]? = some x → I i t → Sat ((mg x).bind (fb t)) fun c => match c with | .nx t' => I (i + 1) t' | .bk t' => J t' | .rt r => P r) (hk : ∀ t, I xs.length t → Sat (k t) P) (hb : ∀ t, J t → Sat (k t) P) : Sat (forM' mi mg fb t0 k) P := by
  subst hm
  obtain ⟨c, h1, h2⟩ := forG_go (f := fun t d => (mg d).bind (fb t)) (P := P) I J xs t0 0 h0 fun i t x hx hI => by
    rw [Nat.zero_add] at hI ⊢; exact hs i t x hx hI
  show Sat ((forC _ xs t0).bind (Ctl.go k)) P
  rw [h1]
  cases c with
  | nx t => exact hk t (by rw [Nat.zero_add] at h2; exact h2)
  | bk t => exact hb t h2
  | rt r => exact ⟨r, rfl, h2⟩
end Mir
namespace Mir
theorem ite_some {α : Type} (c : Prop) [Decidable c] (a b : α) : (if c then some a else some b) = some (if c then a else b) := by split <;> rfl
end Mir
namespace Mir
open PySem PySem.Spec PyProof.Rows L2
@[simp] theorem gOr_bb (a b : Bool) : gOr (some (.bool a)) (some (.bool b)) = some (.bool (a || b)) := by cases a <;> rfl
@[simp] theorem gAnd_bb (a b : Bool) : gAnd (some (.bool a)) (some (.bool b)) = some (.bool (a && b)) := by cases a <;> rfl
theorem nd_strs (zs : List Str) : PyData.hasDictAll (zs.map .str) = false := by
  induction zs with
  | nil => simp [PyData.hasDictAll]
  | cons z zs ih => simp [PyData.hasDictAll, PyData.hasDict, ih]
theorem nd_ints (zs : List Int) : PyData.hasDictAll (zs.map .int) = false := by
  induction zs with
  | nil => simp [PyData.hasDictAll]
  | cons z zs ih => simp [PyData.hasDictAll, PyData.hasDict, ih]
theorem dp_strs (zs : List Str) : PyData.depthAll (zs.map .str) = 0 := by
  induction zs with
  | nil => simp [PyData.depthAll]
  | cons z zs ih => simp [PyData.depthAll, PyData.depth, ih]
theorem dp_ints (zs : List Int) : PyData.depthAll (zs.map .int) = 0 := by
  induction zs with
  | nil => simp [PyData.depthAll]
  | cons z zs ih => simp [PyData.depthAll, PyData.depth, ih]
theorem pl_ls (zs : List Str) : pl (.list (zs.map .str)) = true := by simp [pl, PyData.hasDict, PyData.depth, nd_strs, dp_strs]
theorem pl_ts (zs : List Str) : pl (.tuple (zs.map .str)) = true := by simp [pl, PyData.hasDict, PyData.depth, nd_strs, dp_strs]
theorem pl_ti (zs : List Int) : pl (.tuple (zs.map .int)) = true := by simp [pl, PyData.hasDict, PyData.depth, nd_ints, dp_ints]
theorem pl_li (zs : List Int) : pl (.list (zs.map .int)) = true := by simp [pl, PyData.hasDict, PyData.depth, nd_ints, dp_ints]
theorem in_strs (w : Str) (zs : List Str) : cIn (.str w) (.tuple (zs.map .str)) = some (decide (w ∈ zs)) := by
  show (if (pl (.str w) && pl (.tuple (zs.map .str))) = true then some ((zs.map PyData.str).any fun z => PyData.eqv z (.str w)) else none) = _
  rw [pl_s, pl_ts]
  simp only [Bool.and_self, if_true, List.any_map, Function.comp_def, eqv_s]
  congr 1
  rw [Bool.eq_iff_iff, List.any_eq_true, decide_eq_true_eq]
  exact ⟨fun ⟨x, h, e⟩ => of_decide_eq_true e ▸ h, fun h => ⟨w, h, decide_eq_true rfl⟩⟩
theorem in_lstrs (w : Str) (zs : List Str) : cIn (.str w) (.list (zs.map .str)) = some (decide (w ∈ zs)) := by
  show (if (pl (.str w) && pl (.list (zs.map .str))) = true then some ((zs.map PyData.str).any fun z => PyData.eqv z (.str w)) else none) = _
  rw [pl_s, pl_ls]
  simp only [Bool.and_self, if_true, List.any_map, Function.comp_def, eqv_s]
  congr 1
  rw [Bool.eq_iff_iff, List.any_eq_true, decide_eq_true_eq]
  exact ⟨fun ⟨x, h, e⟩ => of_decide_eq_true e ▸ h, fun h => ⟨w, h, decide_eq_true rfl⟩⟩
theorem notin_strs (w : Str) (zs : List Str) : cNotIn (.str w) (.tuple (zs.map .str)) = some (!decide (w ∈ zs)) := by unfold cNotIn; rw [in_strs]; rfl
theorem notin_lstrs (w : Str) (zs : List Str) : cNotIn (.str w) (.list (zs.map .str)) = some (!decide (w ∈ zs)) := by unfold cNotIn; rw [in_lstrs]; rfl
/-- a tuple of ints against () -/
theorem eq_empty (is : List Int) : cEq (.tuple (is.map .int)) (.tuple []) = some (is.isEmpty) := by
  show (if (pl (.tuple (is.map .int)) && pl (.tuple [])) = true then some (PyData.eqv (.tuple (is.map .int)) (.tuple [])) else none) = _
  rw [pl_ti, show pl (.tuple []) = true from pl_ti []]
  cases is <;> simp [PyData.eqv, PyData.eqvAll]
theorem at_last {α : Type} (xs : List α) (x : α) : atI (xs ++ [x]) (-1) = some x := L2.atI_last xs x
end Mir
namespace Mir
open PySem PySem.Spec PyProof.Rows L2
theorem Dr.cut {ds : List Int} {n : Nat} (h : Dr ds n) {lo hi : Int} (h0 : 0 ≤ lo) (h1 : lo ≤ hi) (h2 : hi ≤ n) : ∃ es : List Int, cutD (ds.map PyData.int) (some lo) (some hi) = es.map PyData.int ∧ Dr es (hi - lo).toNat := by
  unfold cutD
  rw [List.length_map, sIx_pos h0, sIx_pos (by omega), ← List.map_drop, ← List.map_take]
  refine ⟨_, rfl, ?_, fun d m => h.2 d (List.mem_of_mem_drop (List.mem_of_mem_take m))⟩
  rw [List.length_take, List.length_drop, h.1]
  omega
theorem Dr.cut0 {ds : List Int} {n : Nat} (h : Dr ds n) {hi : Int} (h1 : 0 ≤ hi) (h2 : hi ≤ n) : ∃ es : List Int, cutD (ds.map PyData.int) none (some hi) = es.map PyData.int ∧ Dr es hi.toNat := by
  unfold cutD
  rw [List.length_map, sIx_pos (by omega), sIx_nn, ← List.map_drop, ← List.map_take]
  refine ⟨_, rfl, ?_, fun d m => h.2 d (List.mem_of_mem_drop (List.mem_of_mem_take m))⟩
  rw [List.length_take, List.length_drop, h.1]
  omega
theorem lcS_fil2 {f : PyData → Option (Option PyData)} (p : PyData → Bool) (g : PyData → PyData) : ∀ (xs : List PyData), (∀ x ∈ xs, f x = some (if p x = true then some (g x) else none)) → lcS f xs = some ((xs.filter p).map g)
  | [], _ => rfl
  | x :: xs, h => by
    unfold lcS
    rw [h x (by simp), lcS_fil2 p g xs fun y m => h y (List.mem_cons_of_mem _ m)]
    by_cases hp : p x = true
    · rw [if_pos hp, List.filter_cons_of_pos hp]; rfl
    · rw [if_neg hp, List.filter_cons_of_neg hp]; rfl
theorem lc_fil {δ : Type} {mg : PyData → Option δ} {ft : δ → Option Bool} {fe : δ → Option PyData} (p : PyData → Bool) (g : PyData → PyData) {xs : List PyData} (hl : xs.length ≤ 16777216) (h : ∀ x ∈ xs, (mg x).bind (lcT ft fe) = some (if p x = true then some (g x) else none)) : lcM (some xs) mg ft fe = some (.list ((xs.filter p).map g)) := by
  unfold lcM
  rw [Option.bind_some, if_pos hl, lcS_fil2 p g xs h]; rfl
theorem lcT_if {δ : Type} {ft : δ → Option Bool} {fe : δ → Option PyData} {z : δ} {b : Bool} {y : PyData} (h1 : ft z = some b) (h2 : fe z = some y) : lcT ft fe z = some (if b = true then some y else none) := by
  unfold lcT
  rw [h1, Option.bind_some, h2]
  cases b <;> rfl
theorem index_strs {zs : List Str} {w : Str} (h : w ∈ zs) : ∃ j : Nat, pIndex (.list (zs.map .str)) (.str w) = some (.int (j : Int)) := by
  have e : pIndex (.list (zs.map .str)) (.str w) = ((zs.map PyData.str).findIdx? fun z => PyData.eqv z (.str w)).map fun j => .int (j : Nat) := by
    show (if (pl (.list (zs.map .str)) && pl (.str w)) = true then _ else none) = _
    rw [pl_ls, pl_s]; rfl
  rw [e]
  have hs : ((zs.map PyData.str).findIdx? fun z => PyData.eqv z (.str w)).isSome = true := by
    rw [List.findIdx?_isSome, List.any_eq_true]
    exact ⟨.str w, List.mem_map_of_mem h, by simp⟩
  obtain ⟨j, hj⟩ := Option.isSome_iff_exists.mp hs
  exact ⟨j, by rw [hj]; rfl⟩
theorem rngI_in {lo : Int} {n : Nat} {i : Int} (h1 : lo ≤ i) (h2 : i < lo + n) : PyData.int i ∈ rngI lo n := by
  unfold rngI
  exact List.mem_map.mpr ⟨(i - lo).toNat, List.mem_range.mpr (by omega), by congr 1; omega⟩
theorem noLs_ints (is : List Int) : noLs (is.map .int) = true := by
  induction is with
  | nil => simp [noLs]
  | cons i is ih => simp [noLs, noL, ih]
end Mir
namespace Mir
open PySem PySem.Spec PyProof.Rows L2
/-! ### xs[i] = e -/
def pSetI : PyData → PyData → PyData → Option PyData
  | .list ds, .int j, d => (ixN ds.length j).bind fun n => some (.list (ds.set n d))
  | _, _, _ => none
section
variable {X : Cx} {tb : Addr → Prop} {ρ : Type} {rest : List Stmt} {e ie ne : Expr} {sh : List Sl} {env : List PyData} {κ : Kont ρ} {me mi : Option PyData} {pos ps : Pos} {i : Nat} {di : PyData}
theorem s_set {k : PyData → Option ρ} (h1 : sh[i]? = some (.ow .any)) (h2 : env[i]? = some di) (hv : PE X ne (tVar i)) (he : PE X e (tE (gx tb X) sh env me)) (hi : PE X ie (tE (gx tb X) sh env mi)) (h : ∀ d, PSs X rest (tS (gx tb X) sh (env.set i d) κ (k d)))
    (ha : ∀ v, assign (.Subscript ne ie ps) X.env v = (do
      let ov ← holding [v] (eval ne X.env)
      let iv ← holding [v, ov] (eval ie X.env)
      standAt ps
      holding [v, ov, iv] (setItem ov iv v)
      release [v, ov, iv] []) := by intro _; rfl)
    (hs : swapsWithSole [.Subscript ne ie ps] e pos.line X.env = pure false := by rfl) (hw : swappedStores [.Subscript ne ie ps] e X.env = pure none := by rfl) (h3 : (assignEach [.Subscript ne ie ps] X.env).map (·.2) = [assign (.Subscript ne ie ps) X.env] := by rfl) :
    PSs X (.Assign [.Subscript ne ie ps] e pos :: rest) (tS (gx tb X) sh env κ (me.bind fun d => mi.bind fun j => (pSetI di j d).bind k)) := by
  refine (pss_cons (ps_asg he (pg_sub hv hi set_list ha) hs hw h3) (pss_ex h)).imp fun Dn σ H ⟨F, A, r, s, e, q⟩ => ?_
  obtain ⟨d, hd, e⟩ := Option.bind_eq_some_iff.mp e
  obtain ⟨j, hj, e⟩ := Option.bind_eq_some_iff.mp e
  obtain ⟨d', hd', e⟩ := Option.bind_eq_some_iff.mp e
  cases di with
  | list ds =>
   cases j with
   | int jn =>
    obtain ⟨n, hn, hd'⟩ := Option.bind_eq_some_iff.mp (show (ixN ds.length jn).bind (fun n => some (PyData.list (ds.set n d))) = some d' from hd')
    cases hd'
    refine ⟨F, A, d, s, hd, fun v F1 H1 w1 p1 => ?_⟩
    have s1 := s.grow w1
    obtain ⟨l, vs, hσ, hH, rl, hA⟩ := own_list s1 h1 h2
    refine ⟨.ref l, hσ, F1, A, _, s1, hj, fun jv F2 H2 w2 p2 => ?_⟩
    cases p2
    have s2 := s1.grow w2
    have hH2 : H2 l = some (.lst vs) := w2.keep.of hH (fun _ z => nomatch z)
    obtain ⟨s3, y3⟩ := s2.rewrite (o := .lst (vs.set n v)) (d' := .list (ds.set n d)) h1 h2 hσ hA (fun _ z => nomatch z) rfl ⟨l, _, rfl, upd_same, (rl.mono w2.sub).set (p1.mono w2.sub) n⟩
    exact ⟨l, vs, jn, n, rfl, rfl, hH2, by rw [rl.length]; exact hn, .list (ds.set n d), F2, A, r, s3, e, q.step (((Evo.of w1).trans (Evo.of w2)).trans y3)⟩
   | _ => cases hd'
  | _ => cases j <;> cases hd'
end
end Mir
namespace Mir
open PySem PySem.Spec PyProof.Rows L2
/-! ### the text -/
def topS (i : Nat) : Stmt := PySem.Challenge.pw_fromruns_k56_judged_derivations.main.body.getD i (.Pass ⟨0, 0, 0, 0⟩)
structure Bi (mg : Str → Option Value) : Prop where
  n_abs : mg "abs" = none
  n_all : mg "all" = none
  n_any : mg "any" = none
  n_bool : mg "bool" = none
  n_int : mg "int" = none
  n_isinstance : mg "isinstance" = none
  n_len : mg "len" = none
  n_list : mg "list" = none
  n_max : mg "max" = none
  n_min : mg "min" = none
  n_range : mg "range" = none
  n_sorted : mg "sorted" = none
  n_str : mg "str" = none
  n_tuple : mg "tuple" = none
/-! ### mirrors -/
def m_corner_run (a0 a1 : PyData) : Option PyData :=
  ((some a1).bind fun e => ((uTup (uCons some (uCons some (uCons some (uCons some (uCons some uNil)))))) e).bind fun z1 =>
  ((b2 pAdd (slM (b2 pIx (some a0) (some z1.2.1)) (some none) (loM (some z1.2.2.2.2.1))) (slM (b2 pIx (some a0) (some z1.2.2.1)) (loM (some z1.2.2.2.1)) (some none))).bind some))
def m_is_corner (a0 a1 a2 : PyData) : Option PyData :=
  (jn (fun (t3 : Unit) =>
  ((some a2).bind fun e => ((uTup (uCons some (uCons some (uCons some (uCons some (uCons some uNil)))))) e).bind fun z4 =>
  ((b2 pIx (some a0) (some z4.1)).bind fun d5 =>
  ((b2 pIx (some a0) (some z4.2.1)).bind fun d6 =>
  ((b2 pIx (some a0) (some z4.2.2.1)).bind fun d7 =>
  (jn (fun (t9 : Unit) =>
  (jn (fun (t11 : Unit) =>
  ((bl (b2 cEq (slM (some d7) (some none) (loM (some z4.2.2.2.1))) (slM (some d5) (some none) (loM (some z4.2.2.2.1))))).bind some)) fun k10 =>
  iteM (bOr (b2 cNe (slM (some d5) (loM (b2 pSub (some z4.2.2.2.1) (some a1))) (loM (some z4.2.2.2.1))) (slM (some d6) (loM (b2 pSub (some z4.2.2.2.2.1) (some a1))) (loM (some z4.2.2.2.2.1)))) (b2 cNe (slM (some d5) (loM (some z4.2.2.2.1)) (some none)) (slM (some d6) (loM (some z4.2.2.2.2.1)) (some none))))
  ((some (.bool false)).bind some)
  (k10 ()))) fun k8 =>
  iteM (bOr (b2 cLt (some z4.2.2.2.1) (some a1)) (bOr (b2 cLt (some z4.2.2.2.2.1) (some a1)) (bOr (b2 cGt (some z4.2.2.2.1) ((some d5).bind pLen)) (bOr (b2 cGt (some z4.2.2.2.1) ((some d7).bind pLen)) (b2 cGt (some z4.2.2.2.2.1) ((some d6).bind pLen))))))
  ((some (.bool false)).bind some)
  (k8 ()))))))) fun k2 =>
  iteM (bOr (b2 cNe ((some a2).bind pLen) (some (.int 5))) ((anyG [("runs", a0)] (slM (some a2) (some none) (loM (some (.int 3)))) (fun z1 => (gOr (bl (b2 cLt (some z1) (some (.int 0)))) (bl (b2 cGe (some z1) ((some a0).bind gLen)))))).bind truth))
  ((some (.bool false)).bind some)
  (k2 ()))
def m_judge_derivation (a0 a1 a2 a3 : PyData) : Option PyData :=
  ((lstM []).bind fun d1 =>
  (jn (fun (t4 : PyData) =>
  ((vAnd (bl (b2 cGt ((some t4).bind pLen) (some (.int 0)))) (bl (b2 cEq (b2 pIx (some t4) ((some (.int 1)).bind pNeg)) (some a3)))).bind some)) fun k2 =>
  forM' ((some a2).bind pItm) (uTup (uCons some (uCons some uNil))) (fun (t3 : PyData) z5 =>
  (jn (fun (t7 : Unit) =>
  ((some z5.1).bind fun e => (pApp t3 e).bind fun d8 =>
  (some (.nx d8)))) fun k6 =>
  iteM (b2 cEq (some z5.2.1) (tupM []))
  (iteM (b2 cNotIn (some z5.1) (some a0))
  ((some (.bool false)).bind (fun d => some (.rt d)))
  (k6 ()))
  (iteM (bOr (notM ((bindL [(some t3), (some a1), (some z5.2.1)] (ap3 m_is_corner)).bind truth)) (b2 cNe (bindL [(some t3), (some z5.2.1)] (ap2 m_corner_run)) (some z5.1)))
  ((some (.bool false)).bind (fun d => some (.rt d)))
  (k6 ())))) d1 k2))
def m__law_cell (a0 a1 : PyData) : Option PyData :=
  (jn (fun (t2 : Unit) =>
  ((b2 pAdd (b2 pMul (some (.int 5)) (some a1)) (some (.int 3))).bind some)) fun k1 =>
  iteM (b2 cLt (some a1) ((some a0).bind pLen))
  ((b2 pIxS (some a0) (some a1)).bind some)
  (k1 ()))
def m__law_draws (a0 a1 : PyData) : Option PyData :=
  ((((some a0).bind pInt).bind pAbs).bind fun d1 =>
  ((bl (b2 cGe (some d1) (b2 pPow (some (.int 10)) (some (.int 18))))).bind fun d2 =>
  ((some d1).bind fun d3 =>
  ((lstM []).bind fun d4 =>
  (jn (fun (t7 : PyData × PyData) =>
  ((some t7.2).bind some)) fun k5 =>
  forM' ((some a1).bind pRng1) some (fun (t6 : PyData × PyData) z8 =>
  (iteM (bAnd ((some d2).bind truth) (b2 cGt (some t6.1) (some (.int 0))))
  ((b2 pMod ((some t6.1).bind pInt) (some (.int 5040))).bind fun e => (pApp t6.2 e).bind fun d9 =>
  ((b2 pFdiv (some t6.1) (some (.int 5040))).bind fun d10 =>
  (some (.nx (d10, d9)))))
  ((b2 pMod ((b2 pAdd (b2 pAdd (b2 pMul (some d3) (some (.int 48271))) (b2 pMul (b2 pAdd (some z8) (some (.int 1))) (some (.int 69621)))) (some (.int 11))).bind pInt) (some (.int 2147483647))).bind fun d11 =>
  ((b2 pMod ((b2 pAdd (b2 pMul (some d11) (some d11)) (b2 pMul (some (.int 40692)) (b2 pAdd (some z8) (some (.int 3))))).bind pInt) (some (.int 2147483399))).bind fun d12 =>
  ((b2 pMod ((b2 pFdiv (some d12) (some (.int 64))).bind pInt) (some (.int 5040))).bind fun e => (pApp t6.2 e).bind fun d13 =>
  (some (.nx (t6.1, d13)))))))) (d1, d4) k5)))))
def m__law_is_integer (a0 : PyData) : Option PyData :=
  ((vAnd ((some a0).bind (pIsi "int")) (notV ((some a0).bind (pIsi "bool")))).bind some)
def m__law_is_run (a0 : PyData) : Option PyData :=
  ((vAnd ((some a0).bind (pIsi "str")) ((lcM ((some a0).bind pItm) some (fun _ => some true) (fun z1 => (bl (b2 cIn (some z1) (some (.str "abcdefghijklmnopqrstuvwxyz")))))).bind pAll)).bind some)
def m__law_letters (a0 a1 : PyData) : Option PyData :=
  ((b2 pMod ((some a0).bind pInt) (some (.int 26))).bind fun d1 =>
  ((b2 pAdd (some (.int 1)) (b2 pMod (b2 pFdiv ((some a0).bind pInt) (some (.int 26))) (some (.int 12)))).bind fun d2 =>
  (((lcM ((some a1).bind pRng1) some (fun _ => some true) (fun z3 => (b2 pIx (some (.str "abcdefghijklmnopqrstuvwxyz")) (b2 pMod (b2 pAdd (some d1) (b2 pMul (some d2) (some z3))) (some (.int 26)))))).bind pSort).bind some)))
def m__law_word (a0 a1 a2 : PyData) : Option PyData :=
  ((b2 pMod ((some a0).bind pInt) (b2 pAdd (some a2) (some (.int 1)))).bind fun d1 =>
  ((b2 pFdiv ((some a0).bind pInt) (b2 pAdd (some a2) (some (.int 1)))).bind fun d2 =>
  ((some (.str "")).bind fun d3 =>
  (jn (fun (t6 : PyData × PyData) =>
  ((some t6.2).bind some)) fun k4 =>
  forM' ((some d1).bind pRng1) some (fun (t5 : PyData × PyData) z7 =>
  ((b2 pAdd (some t5.2) (b2 pIx (some a1) (b2 pMod ((some t5.1).bind pInt) ((some a1).bind pLen)))).bind fun d8 =>
  ((b2 pAdd (b2 pFdiv (some t5.1) ((some a1).bind pLen)) (b2 pMul (some (.int 37)) (b2 pAdd (some z7) (some (.int 1))))).bind fun d9 =>
  (some (.nx (d9, d8)))))) (d2, d3) k4))))
def m__law_runs (a0 a1 a2 a3 : PyData) : Option PyData :=
  ((bindL [(some a0), (b2 pAdd (some (.int 5)) (b2 pMul (some (.int 4)) (some a2)))] (ap2 m__law_draws)).bind fun d1 =>
  ((lcM ((some (.int 4)).bind pRng1) some (fun _ => some true) (fun z3 => (bindL [(b2 pIx (some d1) (b2 pAdd (some (.int 1)) (some z3))), (some a1), (some (.int 2))] (ap3 m__law_word)))).bind fun d2 =>
  ((lstM []).bind fun d4 =>
  (jn (fun (t7 : PyData) =>
  (((some t7).bind pTup).bind some)) fun k5 =>
  forM' ((b2 pMod (b2 pIx (some d1) (some (.int 0))) (b2 pAdd (some a2) (some (.int 1)))).bind pRng1) some (fun (t6 : PyData) z8 =>
  ((b2 pIx (some d1) (b2 pAdd (some (.int 5)) (b2 pMul (some (.int 4)) (some z8)))).bind fun d9 =>
  (jn (fun (t11 : PyData) =>
  ((slM (some t11) (some none) (loM (some a3))).bind fun e => (pApp t6 e).bind fun d16 =>
  (some (.nx d16)))) fun k10 =>
  iteM (b2 cEq (b2 pMod (some d9) (some (.int 3))) (some (.int 0)))
  ((bindL [(b2 pIx (some d1) (b2 pAdd (some (.int 6)) (b2 pMul (some (.int 4)) (some z8)))), (some a1), (some a3)] (ap3 m__law_word)).bind fun d12 =>
  (k10 d12))
  (iteM (b2 cEq (b2 pMod (some d9) (some (.int 3))) (some (.int 1)))
  ((b2 pIx (some d2) (b2 pMod (b2 pIx (some d1) (b2 pAdd (some (.int 7)) (b2 pMul (some (.int 4)) (some z8)))) (some (.int 4)))).bind fun d13 =>
  ((b2 pAdd (b2 pAdd (b2 pIx (some d2) (b2 pMod (b2 pIx (some d1) (b2 pAdd (some (.int 6)) (b2 pMul (some (.int 4)) (some z8)))) (some (.int 4)))) (b2 pMul (some d13) (b2 pMod (b2 pIx (some d1) (b2 pAdd (some (.int 8)) (b2 pMul (some (.int 4)) (some z8)))) (some (.int 4))))) (b2 pIx (some d2) (b2 pMod (b2 pFdiv (b2 pIx (some d1) (b2 pAdd (some (.int 8)) (b2 pMul (some (.int 4)) (some z8)))) (some (.int 4))) (some (.int 4))))).bind fun d14 =>
  (k10 d14)))
  ((b2 pAdd (b2 pAdd (b2 pIx (some d2) (b2 pMod (b2 pIx (some d1) (b2 pAdd (some (.int 6)) (b2 pMul (some (.int 4)) (some z8)))) (some (.int 4)))) (bindL [(b2 pIx (some d1) (b2 pAdd (some (.int 7)) (b2 pMul (some (.int 4)) (some z8)))), (some a1), (some (.int 2))] (ap3 m__law_word))) (b2 pIx (some d2) (b2 pMod (b2 pIx (some d1) (b2 pAdd (some (.int 8)) (b2 pMul (some (.int 4)) (some z8)))) (some (.int 4))))).bind fun d15 =>
  (k10 d15)))))) d4 k5))))
def m__law_derives (a0 a1 a2 a3 : PyData) : Option PyData :=
  (jn (fun (t2 : Unit) =>
  ((lstM []).bind fun d3 =>
  (jn (fun (t6 : PyData) =>
  ((bl (b2 cEq (b2 pIx (some t6) ((some (.int 1)).bind pNeg)) (some a3))).bind some)) fun k4 =>
  forM' ((some a2).bind pItm) some (fun (t5 : PyData) z7 =>
  (jn (fun (t9 : Unit) =>
  (jn (fun (t11 : Unit) =>
  ((b2 pIx (some z7) (some (.int 0))).bind fun e => (pApp t5 e).bind fun d26 =>
  (some (.nx d26)))) fun k10 =>
  iteM (b2 cEq (b2 pIx (some z7) (some (.int 1))) (tupM []))
  (iteM (b2 cNotIn (b2 pIx (some z7) (some (.int 0))) (some a0))
  ((some (.bool false)).bind (fun d => some (.rt d)))
  (k10 ()))
  (jn (fun (t14 : Unit) =>
  ((b2 pIx (b2 pIx (some z7) (some (.int 1))) (some (.int 0))).bind fun d15 =>
  ((b2 pIx (b2 pIx (some z7) (some (.int 1))) (some (.int 1))).bind fun d16 =>
  ((b2 pIx (b2 pIx (some z7) (some (.int 1))) (some (.int 2))).bind fun d17 =>
  ((b2 pIx (b2 pIx (some z7) (some (.int 1))) (some (.int 3))).bind fun d18 =>
  ((b2 pIx (b2 pIx (some z7) (some (.int 1))) (some (.int 4))).bind fun d19 =>
  (jn (fun (t21 : Unit) =>
  (jn (fun (t23 : Unit) =>
  (jn (fun (t25 : Unit) =>
  (iteM (b2 cNe (b2 pIx (some z7) (some (.int 0))) (b2 pAdd (slM (b2 pIx (some t5) (some d16)) (some none) (loM (some d19))) (slM (b2 pIx (some t5) (some d17)) (loM (some d18)) (some none))))
  ((some (.bool false)).bind (fun d => some (.rt d)))
  (k10 ()))) fun k24 =>
  iteM (bOr (b2 cNe (slM (b2 pIx (some t5) (some d15)) (loM (b2 pSub (some d18) (some a1))) (loM (some d18))) (slM (b2 pIx (some t5) (some d16)) (loM (b2 pSub (some d19) (some a1))) (loM (some d19)))) (bOr (b2 cNe (slM (b2 pIx (some t5) (some d15)) (loM (some d18)) (some none)) (slM (b2 pIx (some t5) (some d16)) (loM (some d19)) (some none))) (b2 cNe (slM (b2 pIx (some t5) (some d17)) (some none) (loM (some d18))) (slM (b2 pIx (some t5) (some d15)) (some none) (loM (some d18))))))
  ((some (.bool false)).bind (fun d => some (.rt d)))
  (k24 ()))) fun k22 =>
  iteM (bOr (b2 cLt (some d18) (some a1)) (bOr (b2 cLt (some d19) (some a1)) (bOr (b2 cGt (some d18) ((b2 pIx (some t5) (some d15)).bind pLen)) (bOr (b2 cGt (some d18) ((b2 pIx (some t5) (some d17)).bind pLen)) (b2 cGt (some d19) ((b2 pIx (some t5) (some d16)).bind pLen))))))
  ((some (.bool false)).bind (fun d => some (.rt d)))
  (k22 ()))) fun k20 =>
  iteM (bOr (b2 cGe (some d15) ((some t5).bind pLen)) (bOr (b2 cGe (some d16) ((some t5).bind pLen)) (b2 cGe (some d17) ((some t5).bind pLen))))
  ((some (.bool false)).bind (fun d => some (.rt d)))
  (k20 ())))))))) fun k13 =>
  iteM (bOr (b2 cNe ((b2 pIx (some z7) (some (.int 1))).bind pLen) (some (.int 5))) (notM (((lcM ((b2 pIx (some z7) (some (.int 1))).bind pItm) some (fun _ => some true) (fun z12 => (vAnd (bindL [(some z12)] (ap1 m__law_is_integer)) (bl (b2 cGe (some z12) (some (.int 0))))))).bind pAll).bind truth)))
  ((some (.bool false)).bind (fun d => some (.rt d)))
  (k13 ())))) fun k8 =>
  iteM (bOr (notM (((some z7).bind (pIsi "tuple")).bind truth)) (bOr (b2 cNe ((some z7).bind pLen) (some (.int 2))) (bOr (notM ((bindL [(b2 pIx (some z7) (some (.int 0)))] (ap1 m__law_is_run)).bind truth)) (notM (((b2 pIx (some z7) (some (.int 1))).bind (pIsi "tuple")).bind truth)))))
  ((some (.bool false)).bind (fun d => some (.rt d)))
  (k8 ()))) d3 k4))) fun k1 =>
  iteM (bOr (notM (((some a2).bind (pIsi "tuple")).bind truth)) (b2 cEq ((some a2).bind pLen) (some (.int 0))))
  ((some (.bool false)).bind some)
  (k1 ()))
def m__law_k (a0 : PyData) : Option PyData :=
  (jn (fun (t2 : Unit) =>
  ((b2 pIx (tupM [(some (.int 0)), (some (.int 1)), (some (.int 1)), (some (.int 2)), (some (.int 2)), (some (.int 3)), (some (.int 0)), (some (.int 1)), (some (.int 2)), (some (.int 4)), (some (.int 3))]) (b2 pMod ((some a0).bind pInt) (some (.int 12)))).bind some)) fun k1 =>
  iteM (b2 cEq (b2 pMod ((some a0).bind pInt) (some (.int 12))) (some (.int 11)))
  ((b2 pMod (b2 pFdiv ((some a0).bind pInt) (some (.int 12))) (some (.int 21))).bind some)
  (k1 ()))
def m__law_seen (a0 a1 a2 a3 : PyData) : Option PyData :=
  ((bindL [(bindL [(some a0), (some a1)] (ap2 m__law_cell)), (some (.int 3))] (ap2 m__law_draws)).bind fun d1 =>
  ((bindL [(b2 pIx (some d1) (some (.int 0))), (b2 pIx (tupM [(some (.int 2)), (some (.int 1)), (some (.int 3)), (some (.int 2)), (some (.int 3)), (some (.int 6))]) (b2 pMod ((b2 pIx (some d1) (some (.int 1))).bind pInt) (some (.int 6))))] (ap2 m__law_letters)).bind fun d2 =>
  ((tupM [(some d2), (bindL [(bindL [(some a0), (b2 pAdd (some a1) (some (.int 1)))] (ap2 m__law_cell)), (some d2), (some a2), (some a3)] (ap4 m__law_runs)), (bindL [(b2 pIx (some d1) (some (.int 2)))] (ap1 m__law_k))]).bind some)))
def m__law_fit (a0 a1 : PyData) : Option PyData :=
  ((lstM []).bind fun d1 =>
  ((some a1).bind fun d2 =>
  (jn (fun (t5 : PyData × PyData) =>
  (((some t5.1).bind pTup).bind some)) fun k3 =>
  forM' ((some a0).bind pItm) some (fun (t4 : PyData × PyData) z6 =>
  (iteM (b2 cLe ((some z6).bind pLen) (some t4.2))
  ((some z6).bind fun e => (pApp t4.1 e).bind fun d7 =>
  ((b2 pSub (some t4.2) ((some z6).bind pLen)).bind fun d8 =>
  (some (.nx (d7, d8)))))
  (some (.bk (t4.1, t4.2))))) (d1, d2) k3)))
def m__law_long_runs (a0 a1 : PyData) : Option PyData :=
  ((bindL [(some a0), (some (.int 70))] (ap2 m__law_draws)).bind fun d1 =>
  ((b2 pMod ((b2 pIx (some d1) (some (.int 0))).bind pInt) (some (.int 4))).bind fun d2 =>
  ((some (.str "")).bind fun d3 =>
  (jn (fun (t6 : PyData) =>
  (jn (fun (t8 : Unit) =>
  (jn (fun (t10 : Unit) =>
  (jn (fun (t15 : Unit) =>
  (jn (fun (t19 : Unit) =>
  ((bindL [(lcM ((some (.int 59)).bind pRng1) some (fun _ => some true) (fun z28 => (bindL [(b2 pIx (some d1) (b2 pAdd (some (.int 10)) (some z28))), (some a1), (b2 pAdd (some (.int 1)) (b2 pMod ((b2 pIx (some d1) (some (.int 5))).bind pInt) (some (.int 4))))] (ap3 m__law_word)))), (some (.int 60))] (ap2 m__law_fit)).bind some)) fun k18 =>
  iteM (b2 cEq (some d2) (some (.int 2)))
  ((lstM []).bind fun d20 =>
  (jn (fun (t23 : PyData) =>
  ((bindL [(some t23), (some (.int 60))] (ap2 m__law_fit)).bind some)) fun k21 =>
  forM' ((some (.int 4)).bind pRng1) some (fun (t22 : PyData) z24 =>
  ((b2 pAdd (bindL [(b2 pIx (some d1) (b2 pAdd (some (.int 10)) (b2 pMul (some (.int 4)) (some z24)))), (some a1), (some (.int 3))] (ap3 m__law_word)) (b2 pIx (some a1) (b2 pMod ((b2 pIx (some d1) (b2 pAdd (some (.int 11)) (b2 pMul (some (.int 4)) (some z24)))).bind pInt) ((some a1).bind pLen)))).bind fun d25 =>
  ((bindL [(b2 pIx (some d1) (b2 pAdd (some (.int 12)) (b2 pMul (some (.int 4)) (some z24)))), (some a1), (some (.int 3))] (ap3 m__law_word)).bind fun d26 =>
  ((b2 pAdd (slM (b2 pMul (some d25) (some (.int 20))) (some none) (loM (b2 pAdd (some (.int 8)) (b2 pMod ((b2 pIx (some d1) (b2 pAdd (some (.int 13)) (b2 pMul (some (.int 4)) (some z24)))).bind pInt) (some (.int 15)))))) (some d26)).bind fun e => (pApp t22 e).bind fun d27 =>
  (some (.nx d27)))))) d20 k21))
  (k18 ()))) fun k14 =>
  iteM (b2 cEq (some d2) (some (.int 1)))
  ((b2 pAdd (bindL [(b2 pIx (some d1) (some (.int 2))), (some a1), (some (.int 4))] (ap3 m__law_word)) (b2 pIx (some a1) (some (.int 0)))).bind fun d16 =>
  ((bindL [(b2 pIx (some d1) (some (.int 3))), (some a1), (some (.int 3))] (ap3 m__law_word)).bind fun d17 =>
  ((tupM [(b2 pAdd (some d17) (slM (b2 pMul (some d16) (some (.int 60))) (some none) (loM (b2 pSub (some (.int 38)) (b2 pMod ((b2 pIx (some d1) (some (.int 4))).bind pInt) (some (.int 9))))))), (b2 pAdd (some d17) (b2 pMul (some d16) (b2 pAdd (some (.int 1)) (b2 pMod ((b2 pIx (some d1) (some (.int 5))).bind pInt) (some (.int 3))))))]).bind some)))
  (k14 ()))) fun k9 =>
  iteM (b2 cEq (some d2) (some (.int 0)))
  ((slM (some t6) (some none) (loM (b2 pAdd (some (.int 12)) (b2 pMod ((b2 pIx (some d1) (some (.int 2))).bind pInt) (some (.int 9)))))).bind fun d11 =>
  ((b2 pAdd (slM (some d11) (some none) (loM (b2 pMod ((b2 pIx (some d1) (some (.int 3))).bind pInt) (b2 pAdd ((some d11).bind pLen) (some (.int 1)))))) (slM (some d11) (loM (b2 pMod ((b2 pIx (some d1) (some (.int 4))).bind pInt) (b2 pAdd ((some d11).bind pLen) (some (.int 1))))) (some none))).bind fun d12 =>
  ((b2 pAdd (slM (some d11) (loM (b2 pMod ((b2 pIx (some d1) (some (.int 5))).bind pInt) ((some d11).bind pLen))) (some none)) (some d11)).bind fun d13 =>
  ((tupM [(some d11), (slM (some d12) (some none) (loM (some (.int 20)))), (slM (some d13) (some none) (loM (some (.int 20))))]).bind some))))
  (k9 ()))) fun k7 =>
  iteM (bAnd (b2 cEq (some d2) (some (.int 0))) (b2 cEq (b2 pMod ((b2 pIx (some d1) (some (.int 1))).bind pInt) (some (.int 8))) (some (.int 0))))
  ((tupM [(some t6)]).bind some)
  (k7 ()))) fun k4 =>
  forM' ((b2 pSub (some (.int 60)) (b2 pMod (b2 pFdiv ((b2 pIx (some d1) (some (.int 1))).bind pInt) (some (.int 8))) (some (.int 3)))).bind pRng1) some (fun (t5 : PyData) z29 =>
  ((b2 pAdd (some t5) (b2 pIx (some a1) (b2 pMod ((b2 pIx (some d1) (b2 pAdd (some (.int 10)) (some z29))).bind pInt) ((some a1).bind pLen)))).bind fun d30 =>
  (some (.nx d30)))) d3 k4))))
def m__law_seen_any (a0 a1 a2 a3 : PyData) : Option PyData :=
  ((bindL [(some a0), (some a1), (some a2), (some a3)] (ap4 m__law_seen)).bind fun d1 =>
  (jn (fun (t3 : Unit) =>
  ((some d1).bind some)) fun k2 =>
  iteM (b2 cEq (b2 pMod ((b2 pIx (bindL [(bindL [(some a0), (some a1)] (ap2 m__law_cell)), (some (.int 4))] (ap2 m__law_draws)) (some (.int 3))).bind pInt) (some (.int 8))) (some (.int 3)))
  ((tupM [(b2 pIx (some d1) (some (.int 0))), (bindL [(bindL [(some a0), (b2 pAdd (some a1) (some (.int 1)))] (ap2 m__law_cell)), (b2 pIx (some d1) (some (.int 0)))] (ap2 m__law_long_runs)), (b2 pIx (some d1) (some (.int 2)))]).bind some)
  (k2 ())))
def m__law_drawn_line (a0 a1 a2 : PyData) : Option PyData :=
  ((b2 pMod ((b2 pIx (some a2) (some (.int 0))).bind pInt) ((some a0).bind pLen)).bind fun d1 =>
  ((b2 pIx (some a0) (some d1)).bind fun d2 =>
  ((lstM []).bind fun d3 =>
  (jn (fun (t6 : PyData) =>
  ((lcM ((some t6).bind pItm) some (fun z8 => (b2 cNe (slM (b2 pIx (some a0) (b2 pIx (some z8) (some (.int 0)))) (some none) (loM (b2 pIx (some z8) (some (.int 2))))) (slM (some d2) (some none) (loM (b2 pIx (some z8) (some (.int 1))))))) (fun z8 => (some z8))).bind fun d7 =>
  (jn (fun (t10 : PyData) =>
  (jn (fun (t13 : Unit) =>
  ((b2 pIx (some t10) (b2 pMod ((b2 pIx (some a2) (some (.int 1))).bind pInt) ((some t10).bind pLen))).bind fun d14 =>
  ((b2 pIx (some d14) (some (.int 1))).bind fun d15 =>
  ((lcM (((some a0).bind pLen).bind pRng1) some (fun z17 => (bAnd (b2 cGe ((b2 pIx (some a0) (some z17)).bind pLen) (some d15)) (b2 cEq (slM (b2 pIx (some a0) (some z17)) (some none) (loM (some d15))) (slM (some d2) (some none) (loM (some d15)))))) (fun z17 => (some z17))).bind fun d16 =>
  ((b2 pIx (some d16) (b2 pMod (b2 pFdiv ((b2 pIx (some a2) (some (.int 2))).bind pInt) (some (.int 8))) ((some d16).bind pLen))).bind fun d18 =>
  ((tupM [(b2 pAdd (slM (b2 pIx (some a0) (b2 pIx (some d14) (some (.int 0)))) (some none) (loM (b2 pIx (some d14) (some (.int 2))))) (slM (b2 pIx (some a0) (some d18)) (loM (some d15)) (some none))), (tupM [(some d1), (b2 pIx (some d14) (some (.int 0))), (some d18), (some d15), (b2 pIx (some d14) (some (.int 2)))])]).bind some)))))) fun k12 =>
  iteM (b2 cEq ((some t10).bind pLen) (some (.int 0)))
  ((some .none).bind some)
  (k12 ()))) fun k9 =>
  iteM (bAnd (b2 cGt ((some d7).bind pLen) (some (.int 0))) (b2 cNe (b2 pMod ((b2 pIx (some a2) (some (.int 2))).bind pInt) (some (.int 8))) (some (.int 0))))
  ((some d7).bind fun d11 =>
  (k9 d11))
  (k9 t6)))) fun k4 =>
  forM' (((some a0).bind pLen).bind pRng1) some (fun (t5 : PyData) z19 =>
  (jn (fun (t22 : PyData) =>
  (some (.nx t22))) fun k20 =>
  forM' (b2 pRng2 (some a1) (b2 pAdd ((b2 pIx (some a0) (some z19)).bind pLen) (some (.int 1)))) some (fun (t21 : PyData) z23 =>
  ((b2 pAdd (b2 pSub ((some d2).bind pLen) ((b2 pIx (some a0) (some z19)).bind pLen)) (some z23)).bind fun d24 =>
  (iteM (bAnd (b2 cGe (some d24) (some a1)) (bAnd (b2 cEq (slM (b2 pIx (some a0) (some z19)) (loM (some z23)) (some none)) (slM (some d2) (loM (some d24)) (some none))) (b2 cEq (slM (b2 pIx (some a0) (some z19)) (loM (b2 pSub (some z23) (some a1))) (loM (some z23))) (slM (some d2) (loM (b2 pSub (some d24) (some a1))) (loM (some d24))))))
  ((tupM [(some z19), (some d24), (some z23)]).bind fun e => (pApp t21 e).bind fun d25 =>
  (some (.nx d25)))
  (some (.nx t21))))) t5 k20)) d3 k4))))
def m__law_own_lines (a0 a1 a2 a3 a4 : PyData) : Option PyData :=
  ((lcM ((some a0).bind pItm) some (fun _ => some true) (fun z2 => (tupM [(some z2), (tupM [])]))).bind fun d1 =>
  (jn (fun (t5 : PyData) =>
  ((some t5).bind some)) fun k3 =>
  forM' ((some a3).bind pRng1) some (fun (t4 : PyData) z6 =>
  (iteM (b2 cGt ((some t4).bind pLen) (some (.int 0)))
  (((bindL [(lcM ((some t4).bind pItm) some (fun _ => some true) (fun z8 => (b2 pIx (some z8) (some (.int 0))))), (some a1), (slM (some a2) (loM (b2 pMul (some (.int 3)) (some z6))) (loM (b2 pAdd (b2 pMul (some (.int 3)) (some z6)) (some (.int 3)))))] (ap3 m__law_drawn_line)).bind flat).bind fun d7 =>
  (iteM (bAnd (b2 cNotN (some d7) (some .none)) (b2 cLe ((b2 pIx (some d7) (some (.int 0))).bind pLen) (some a4)))
  ((some d7).bind fun e => (pApp t4 e).bind fun d9 =>
  (some (.nx d9)))
  (some (.nx t4))))
  (some (.nx t4)))) d1 k3))
def m__law_spoilt_number (a0 a1 a2 a3 : PyData) : Option PyData :=
  ((b2 pIx (b2 pIx (some a0) (some a1)) (some (.int 1))).bind fun d1 =>
  ((b2 pMod ((b2 pIx (some a3) (some (.int 0))).bind pInt) (some (.int 5))).bind fun d2 =>
  ((b2 pIx (some d1) (some d2)).bind fun d3 =>
  (((b2 pIx (b2 pIx (some a0) (some a1)) (some (.int 0))).bind pLen).bind fun d4 =>
  ((tupM [(b2 pAdd (some d3) (some (.int 1))), (b2 pSub (some d3) (some (.int 1))), (some a1), (b2 pAdd (some a1) (some (.int 1))), (b2 pSub (some (.int 0)) (some (.int 1))), (b2 pAdd (some d4) (some (.int 1))), (b2 pSub (some a2) (some (.int 1))), (b2 pAdd (some d3) (b2 pPow (some (.int 10)) (some (.int 20)))), (b2 pSub (some (.int 0)) (some d4)), (some a2)]).bind fun d5 =>
  ((tupM [(b2 pIx (b2 pIx (some a0) (some a1)) (some (.int 0))), (b2 pAdd (b2 pAdd (slM (some d1) (some none) (loM (some d2))) (tupM [(b2 pIx (some d5) (b2 pMod ((b2 pIx (some a3) (some (.int 1))).bind pInt) (some (.int 10))))])) (slM (some d1) (loM (b2 pAdd (some d2) (some (.int 1)))) (some none)))]).bind some))))))
def m__law_near_line (a0 a1 a2 a3 a4 : PyData) : Option PyData :=
  ((b2 pIx (b2 pIx (some a0) (some a2)) (some (.int 1))).bind fun d1 =>
  (jn (fun (t3 : PyData) =>
  ((b2 pMod (b2 pFdiv ((b2 pIx (some a4) (some (.int 0))).bind pInt) (some (.int 8))) (some (.int 5))).bind fun d6 =>
  ((b2 pMod (b2 pFdiv ((b2 pIx (some a4) (some (.int 1))).bind pInt) (some (.int 8))) ((some a0).bind pLen)).bind fun d7 =>
  (jn (fun (t9 : PyData) =>
  ((b2 pAdd (b2 pAdd (slM (some t3) (some none) (loM (some d6))) (tupM [(some t9)])) (slM (some t3) (loM (b2 pAdd (some d6) (some (.int 1)))) (some none))).bind fun d11 =>
  ((tupM [(b2 pAdd (slM (b2 pIx (b2 pIx (some a0) (b2 pIx (some d11) (some (.int 1)))) (some (.int 0))) (some none) (loM (b2 pMax2 (some (.int 0)) (b2 pIx (some d11) (some (.int 4)))))) (slM (b2 pIx (b2 pIx (some a0) (b2 pIx (some d11) (some (.int 2)))) (some (.int 0))) (loM (b2 pIx (some d11) (some (.int 3)))) (some none))), (some d11)]).bind some))) fun k8 =>
  iteM (b2 cGt (some d6) (some (.int 2)))
  ((b2 pAdd (b2 pMax2 (some (.int 0)) (b2 pSub (some a1) (some (.int 1)))) (b2 pMod (b2 pFdiv ((b2 pIx (some a4) (some (.int 1))).bind pInt) (some (.int 8))) (some (.int 4)))).bind fun d10 =>
  (k8 d10))
  (k8 d7))))) fun k2 =>
  iteM (bOr (b2 cNe ((some d1).bind pLen) (some (.int 5))) (b2 cEq (b2 pMod ((b2 pIx (some a4) (some (.int 1))).bind pInt) (some (.int 4))) (some (.int 0))))
  ((b2 pAdd (some a1) (b2 pMod ((b2 pIx (some a4) (some (.int 0))).bind pInt) (some (.int 3)))).bind fun d4 =>
  ((tupM [(some a2), (some a3), (b2 pIx (tupM [(some a2), (some a3)]) (b2 pMod (b2 pFdiv ((b2 pIx (some a4) (some (.int 1))).bind pInt) (some (.int 4))) (some (.int 2)))), (some d4), (b2 pIx (tupM [(some d4), (b2 pSub (b2 pAdd (some d4) ((b2 pIx (b2 pIx (some a0) (some a3)) (some (.int 0))).bind pLen)) ((b2 pIx (b2 pIx (some a0) (some a2)) (some (.int 0))).bind pLen))]) (b2 pMod ((b2 pIx (some a4) (some (.int 0))).bind pInt) (some (.int 2))))]).bind fun d5 =>
  (k2 d5)))
  (k2 d1)))
def m__law_spoilt_lines (a0 a1 a2 a3 : PyData) : Option PyData :=
  (jn (fun (t2 : Unit) =>
  ((b2 pMod ((b2 pIx (some a3) (some (.int 1))).bind pInt) ((some a0).bind pLen)).bind fun d3 =>
  ((b2 pMod ((b2 pIx (some a3) (some (.int 2))).bind pInt) ((some a0).bind pLen)).bind fun d4 =>
  ((b2 pIx (some a0) (some d3)).bind fun d5 =>
  ((b2 pMod ((b2 pIx (some a3) (some (.int 0))).bind pInt) (some (.int 14))).bind fun d6 =>
  (jn (fun (t8 : PyData) =>
  ((b2 pAdd (b2 pAdd (slM (some a0) (some none) (loM (some d3))) (lstM [(some t8)])) (slM (some a0) (loM (b2 pAdd (some d3) (some (.int 1)))) (some none))).bind some)) fun k7 =>
  iteM (bAnd (b2 cLt (some d6) (some (.int 3))) (b2 cEq ((b2 pIx (some d5) (some (.int 1))).bind pLen) (some (.int 5))))
  ((bindL [(some a0), (some d3), (some a1), (slM (some a3) (loM (some (.int 3))) (loM (some (.int 5))))] (ap4 m__law_spoilt_number)).bind fun d9 =>
  (k7 d9))
  (iteM (b2 cLt (some d6) (some (.int 5)))
  ((b2 pIx (tupM [(some a1), ((b2 pIx (some d5) (some (.int 0))).bind pLen), (b2 pSub (some a1) (some (.int 1))), (b2 pAdd ((b2 pIx (some d5) (some (.int 0))).bind pLen) (some (.int 1))), (some (.int 0)), (b2 pSub (some (.int 0)) (some (.int 1)))]) (b2 pMod ((b2 pIx (some a3) (some (.int 3))).bind pInt) (some (.int 6)))).bind fun d10 =>
  ((b2 pAdd (some a0) (lstM [(tupM [(b2 pIx (some d5) (some (.int 0))), (tupM [(some d3), (some d3), (some d3), (some d10), (b2 pIx (tupM [(some d10), (some d10), (some d10), (b2 pAdd (some d10) (some (.int 1)))]) (b2 pMod ((b2 pIx (some a3) (some (.int 4))).bind pInt) (some (.int 4))))])])])).bind some))
  (iteM (b2 cGt (some d6) (some (.int 9)))
  ((b2 pAdd (some a0) (lstM [(bindL [(some a0), (some a1), (some d3), (some d4), (slM (some a3) (loM (some (.int 3))) (loM (some (.int 5))))] (ap5 m__law_near_line))])).bind some)
  (iteM (b2 cEq (some d6) (some (.int 5)))
  (((some a0).bind pList).bind fun d11 =>
  ((b2 pIx (some a0) (some d4)).bind fun e => (some d3).bind fun j => (pSetI d11 j e).bind fun d12 =>
  ((some d5).bind fun e => (some d4).bind fun j => (pSetI d12 j e).bind fun d13 =>
  ((some d13).bind some))))
  (iteM (b2 cEq (some d6) (some (.int 6)))
  ((b2 pAdd (slM (some a0) (some none) (loM (some d3))) (slM (some a0) (loM (b2 pAdd (some d3) (some (.int 1)))) (some none))).bind some)
  (iteM (b2 cEq (some d6) (some (.int 7)))
  ((tupM [(b2 pIx (some d5) (some (.int 0))), (b2 pIx (tupM [(tupM []), (b2 pAdd (b2 pIx (some d5) (some (.int 1))) (tupM [(some (.int 0))])), (slM (b2 pIx (some d5) (some (.int 1))) (some none) (loM (some (.int 4)))), (tupM [(some (.int 0)), (some (.int 0)), (some (.int 0)), (some a1), (some a1)]), (b2 pMul (b2 pIx (some d5) (some (.int 1))) (some (.int 2)))]) (b2 pMod ((b2 pIx (some a3) (some (.int 3))).bind pInt) (some (.int 5))))]).bind fun d14 =>
  (k7 d14))
  (iteM (b2 cEq (some d6) (some (.int 8)))
  ((b2 pIx (some a2) (b2 pMod ((b2 pIx (some a3) (some (.int 4))).bind pInt) ((some a2).bind pLen))).bind fun d15 =>
  ((tupM [(b2 pIx (tupM [(b2 pAdd (b2 pIx (some d5) (some (.int 0))) (some d15)), (b2 pAdd (some d15) (b2 pIx (some d5) (some (.int 0)))), (slM (b2 pIx (some d5) (some (.int 0))) (loM (some (.int 1))) (some none)), (slM (b2 pIx (some d5) (some (.int 0))) (some none) (loM ((some (.int 1)).bind pNeg))), (b2 pAdd (b2 pIx (some d5) (some (.int 0))) (some (.str "A"))), (some (.str "?"))]) (b2 pMod ((b2 pIx (some a3) (some (.int 3))).bind pInt) (some (.int 6)))), (b2 pIx (some d5) (some (.int 1)))]).bind fun d16 =>
  (k7 d16)))
  ((b2 pAdd (slM (some a0) (some none) (loM (b2 pAdd (some d3) (some (.int 1))))) (slM (some a0) (loM (some d3)) (some none))).bind some))))))))))))) fun k1 =>
  iteM (b2 cEq ((some a0).bind pLen) (some (.int 0)))
  ((lstM [(tupM [(b2 pIx (some a2) (some (.int 0))), (b2 pIx (tupM [(tupM []), (tupM [(some (.int 0)), (some (.int 0)), (some (.int 0)), (some a1), (some a1)])]) (b2 pMod ((b2 pIx (some a3) (some (.int 0))).bind pInt) (some (.int 2))))])]).bind some)
  (k1 ()))
def m__law_is_told (a0 a1 a2 a3 : PyData) : Option PyData :=
  ((bindL [(some a0), (some a1), (some a2), (some a3)] (ap4 m_judge_derivation)).bind fun d1 =>
  ((vAnd ((some d1).bind (pIsi "bool")) (bl (b2 cEq (some d1) (bindL [(some a0), (some a1), (some a2), (some a3)] (ap4 m__law_derives))))).bind some))
def m_law (a0 : PyData) : Option PyData :=
  ((bindL [(some a0), (some (.int 0)), (some (.int 4)), (some (.int 8))] (ap4 m__law_seen_any)).bind fun d1 =>
  ((slM (b2 pIx (some d1) (some (.int 1))) (some none) (loM (some (.int 12)))).bind fun d2 =>
  ((b2 pIx (some d1) (some (.int 2))).bind fun d3 =>
  ((bindL [(bindL [(some a0), (some (.int 2))] (ap2 m__law_cell)), (some (.int 26))] (ap2 m__law_draws)).bind fun d4 =>
  ((bindL [(some d2), (some d3), (slM (some d4) (some none) (loM (some (.int 24)))), (some (.int 8)), (some (.int 64))] (ap5 m__law_own_lines)).bind fun d5 =>
  ((bindL [(b2 pIx (some d4) (some (.int 24))), (b2 pIx (some d1) (some (.int 0))), (some (.int 6))] (ap3 m__law_word)).bind fun d6 =>
  ((iteM (b2 cEq (b2 pMod ((b2 pIx (some d4) (some (.int 25))).bind pInt) (some (.int 2))) (some (.int 0))) (b2 pMax2 (some (.int 0)) (b2 pSub (some d3) (some (.int 1)))) (b2 pMin2 (some (.int 20)) (b2 pAdd (some d3) (some (.int 1))))).bind fun d7 =>
  ((lstM [(some d5), (lstM [])]).bind fun d8 =>
  (jn (fun (t10 : PyData) =>
  (jn (fun (t14 : PyData) =>
  (jn (fun (t17 : Unit) =>
  ((some (.bool true)).bind some)) fun k15 =>
  forM' ((b2 pAdd (some t14) (lstM [(some d5)])).bind pItm) some (fun (t16 : Unit) z18 =>
  (((some z18).bind pTup).bind fun d19 =>
  ((some d6).bind fun d20 =>
  (jn (fun (t22 : PyData) =>
  (jn (fun (t25 : Unit) =>
  (iteM (notM ((bindL [(some d2), (some d7), (some d19), (some t22)] (ap4 m__law_is_told)).bind truth))
  ((some (.bool false)).bind (fun d => some (.rt d)))
  (some (.nx ())))) fun k24 =>
  iteM (bOr (notM ((bindL [(some d2), (some d3), (some d19), (some t22)] (ap4 m__law_is_told)).bind truth)) (notM ((bindL [((some d2).bind pRev), (some d3), (some d19), (some d6)] (ap4 m__law_is_told)).bind truth)))
  ((some (.bool false)).bind (fun d => some (.rt d)))
  (k24 ()))) fun k21 =>
  iteM (bAnd (b2 cGt ((some d19).bind pLen) (some (.int 0))) (bAnd ((bindL [(b2 pIx (b2 pIx (some d19) ((some (.int 1)).bind pNeg)) (some (.int 0)))] (ap1 m__law_is_run)).bind truth) (b2 cLe ((b2 pIx (b2 pIx (some d19) ((some (.int 1)).bind pNeg)) (some (.int 0))).bind pLen) (some (.int 64)))))
  ((b2 pIx (b2 pIx (some d19) ((some (.int 1)).bind pNeg)) (some (.int 0))).bind fun d23 =>
  (k21 d23))
  (k21 d20))))) () k15)) fun k12 =>
  forM' ((some (.int 6)).bind pRng1) some (fun (t13 : PyData) z26 =>
  ((bindL [(some d5), (some d3), (b2 pIx (some d1) (some (.int 0))), (bindL [(bindL [(some a0), (b2 pAdd (some (.int 3)) (some z26))] (ap2 m__law_cell)), (some (.int 5))] (ap2 m__law_draws))] (ap4 m__law_spoilt_lines)).bind fun e => (pApp t13 e).bind fun d27 =>
  (some (.nx d27)))) t10 k12)) fun k9 =>
  iteM (b2 cGt ((some d2).bind pLen) (some (.int 0)))
  ((b2 pAdd (bindL [(some d2), (some d3), (slM (some d4) (some none) (loM (some (.int 24)))), (some (.int 8)), (some (.int 400))] (ap5 m__law_own_lines)) (lstM [(tupM [(b2 pIx (some d2) (some (.int 0))), (tupM [])])])).bind fun e => (pApp d8 e).bind fun d11 =>
  (k9 d11))
  (k9 d8))))))))))
/-! ### the plain law -/
/-- does the reason fit, as the law and the document say -/
def fitC (k : Int) (a b c : Str) (m n : Int) : Bool := !(decide (m < k) || (decide (n < k) || (decide ((a.length : Int) < m) || (decide ((c.length : Int) < m) || decide ((b.length : Int) < n))))) && (decide (cutS a (some (m - k)) (some m) = cutS b (some (n - k)) (some n)) && (decide (cutS a (some m) none = cutS b (some n) none) && decide (cutS c none (some m) = cutS a none (some m))))
def catS (b c : Str) (m n : Int) : Str := cutS b none (some n) ++ cutS c (some m) none
def place3 (known : List Str) (i j h : Int) : Option (Str × Str × Str) := if 0 ≤ i ∧ 0 ≤ j ∧ 0 ≤ h then match known[i.toNat]?, known[j.toNat]?, known[h.toNat]? with
  | some a, some b, some c => some (a, b, c)
  | _, _, _ => none
  else none
def isC (known : List Str) (k : Int) (is : List Int) : Bool := match is with
  | [i, j, h, m, n] => match place3 known i j h with
    | some (a, b, c) => fitC k a b c m n
    | none => false
  | _ => false
def okC (rs known : List Str) (k : Int) (w : Str) (is : List Int) : Bool :=
  if is.isEmpty = true then decide (w ∈ rs) else isC known k is && (match is with
  | [i, j, h, m, n] => match place3 known i j h with
    | some (_, b, c) => decide (catS b c m n = w)
    | none => false
  | _ => false)
def enc (l : Str × List Int) : PyData := .tuple [.str l.1, .tuple (l.2.map .int)]
def runC (rs : List Str) (k : Int) : List (Str × List Int) → List Str → Option (List Str)
  | [], known => some known
  | (w, is) :: l, known => if okC rs known k w is = true then runC rs k l (known ++ [w]) else none
theorem get_nn {known : List Str} {i : Int} {a : Str} (h0 : 0 ≤ i) (h : known[i.toNat]? = some a) : i < known.length ∧ pIx (.list (known.map .str)) (.int i) = some (.str a) ∧ a ∈ known := by
  obtain ⟨l1, e1⟩ := List.getElem?_eq_some_iff.mp h
  refine ⟨by omega, ?_, e1 ▸ List.getElem_mem _⟩
  rw [pIx_l, at_map h0 (by omega)]; simp [e1]
theorem place_some {known : List Str} {i j h : Int} {a b c : Str} (hp : place3 known i j h = some (a, b, c)) : (0 ≤ i ∧ 0 ≤ j ∧ 0 ≤ h) ∧ (i < known.length ∧ pIx (.list (known.map .str)) (.int i) = some (.str a) ∧ a ∈ known) ∧ (j < known.length ∧ pIx (.list (known.map .str)) (.int j) = some (.str b) ∧ b ∈ known) ∧ (h < known.length ∧ pIx (.list (known.map .str)) (.int h) = some (.str c) ∧ c ∈ known) := by
  unfold place3 at hp
  split at hp
  · rename_i h0
    split at hp
    · rename_i x y z hx hy hz
      cases hp
      exact ⟨h0, get_nn h0.1 hx, get_nn h0.2.1 hy, get_nn h0.2.2 hz⟩
    · cases hp
  · cases hp
theorem place_none {known : List Str} {i j h : Int} (hp : place3 known i j h = none) : ¬ ((0 ≤ i ∧ i < known.length) ∧ (0 ≤ j ∧ j < known.length) ∧ 0 ≤ h ∧ h < known.length) := by
  rintro ⟨⟨a, b⟩, ⟨c, d⟩, e, f⟩
  unfold place3 at hp
  rw [if_pos ⟨a, c, e⟩, List.getElem?_eq_getElem (show i.toNat < known.length by omega), List.getElem?_eq_getElem (show j.toNat < known.length by omega), List.getElem?_eq_getElem (show h.toNat < known.length by omega)] at hp
  cases hp
theorem h_is_corner (known : List Str) (k : Int) (is : List Int) (hb : known.length ≤ 16777216) : m_is_corner (.list (known.map .str)) (.int k) (.tuple (is.map .int)) = some (.bool (isC known k is)) := by
  unfold m_is_corner
  by_cases h4 : is.length = 5
  · obtain ⟨i, j, h, m, n, rfl⟩ := len5 h4
    have hcut : cutD [PyData.int i, PyData.int j, PyData.int h, PyData.int m, PyData.int n] none (some 3) = [PyData.int i, PyData.int j, PyData.int h] := rfl
    have hg : gLen (.list (known.map .str)) = some (.int known.length) := by
      show (if (known.map PyData.str).length ≤ 16777216 then _ else _) = _
      rw [if_pos (by simpa using hb)]; simp
    have hany : anyG [("runs", .list (known.map .str))] (some (.tuple [PyData.int i, PyData.int j, PyData.int h])) (fun z1 => gOr (bl (cLt z1 (.int 0))) (bl (b2 cGe (some z1) (gLen (.list (known.map .str)))))) =
        some (.bool ((decide (i < 0) || decide ((known.length : Int) ≤ i)) || ((decide (j < 0) || decide ((known.length : Int) ≤ j)) || (decide (h < 0) || decide ((known.length : Int) ≤ h))))) := by
      unfold anyG genM
      rw [Option.bind_some, if_pos (by simp [PyData.hasDict, PyData.hasDictAll, nd_strs])]
      simp -implicitDefEqProofs only [b2_ss, bl_s, bindL_n, bindL_c, tupM_e, lstM_e, ap1_e, ap2_e, ap3_e, ap4_e, ap5_e, ap6_e, slM_s, loM_s, notM_s, bAnd_s, bOr_s, vAnd_s, vOr_s, notV_s, uTup_e, uNil_e, uCons_e, truth_b, truth_i, pInt_i, pAbs_i, pNeg_i, pAdd_i, pSub_i, pTup_l, pTup_t, pList_l, pList_t, pLen_l, pLen_t, pLen_s, pItm_l, pItm_t, pItm_s, pIx_l, pIx_t, pIxS_l, isi_ss, isi_tt, isi_bb, isi_ii, isi_bi, cEq_i, cNe_i, cEq_s, cNe_s, cLt_i, cGt_i, cLe_i, cGe_i, cIn_sg, Option.bind_some, Option.map_some, List.length_map, if_true, if_false, Bool.not_true, Bool.not_false, Bool.false_eq_true, decide_true, decide_false, hg, List.mapM_cons, List.mapM_nil, gOr_bb]
      simp [asBs]
    simp -implicitDefEqProofs only [b2_ss, bl_s, bindL_n, bindL_c, tupM_e, lstM_e, ap1_e, ap2_e, ap3_e, ap4_e, ap5_e, ap6_e, slM_s, loM_s, notM_s, bAnd_s, bOr_s, vAnd_s, vOr_s, notV_s, uTup_e, uNil_e, uCons_e, truth_b, truth_i, pInt_i, pAbs_i, pNeg_i, pAdd_i, pSub_i, pTup_l, pTup_t, pList_l, pList_t, pLen_l, pLen_t, pLen_s, pItm_l, pItm_t, pItm_s, pIx_l, pIx_t, pIxS_l, isi_ss, isi_tt, isi_bb, isi_ii, isi_bi, cEq_i, cNe_i, cEq_s, cNe_s, cLt_i, cGt_i, cLe_i, cGe_i, cIn_sg, Option.bind_some, Option.map_some, List.length_map, if_true, if_false, Bool.not_true, Bool.not_false, Bool.false_eq_true, decide_true, decide_false, List.map_cons, List.map_nil, pSl_t, hcut, hany, jn_s]
    obtain ⟨o, hp⟩ : ∃ o, place3 known i j h = o := ⟨_, rfl⟩
    cases o with
    | some abc =>
      obtain ⟨a, b, c⟩ := abc
      obtain ⟨⟨i0, j0, h0⟩, ⟨i1, ea, _⟩, ⟨j1, eb, _⟩, ⟨h1, ec, _⟩⟩ := place_some hp
      rw [pIx_l] at ea eb ec
      have e0 : ((decide (i < 0) || decide ((known.length : Int) ≤ i)) || ((decide (j < 0) || decide ((known.length : Int) ≤ j)) || (decide (h < 0) || decide ((known.length : Int) ≤ h)))) = false := by
        simp only [Bool.or_eq_false_iff, decide_eq_false_iff_not]; omega
      simp -implicitDefEqProofs only [b2_ss, bl_s, bindL_n, bindL_c, tupM_e, lstM_e, ap1_e, ap2_e, ap3_e, ap4_e, ap5_e, ap6_e, slM_s, loM_s, notM_s, bAnd_s, bOr_s, vAnd_s, vOr_s, notV_s, uTup_e, uNil_e, uCons_e, truth_b, truth_i, pInt_i, pAbs_i, pNeg_i, pAdd_i, pSub_i, pTup_l, pTup_t, pList_l, pList_t, pLen_l, pLen_t, pLen_s, pItm_l, pItm_t, pItm_s, pIx_l, pIx_t, pIxS_l, isi_ss, isi_tt, isi_bb, isi_ii, isi_bi, cEq_i, cNe_i, cEq_s, cNe_s, cLt_i, cGt_i, cLe_i, cGe_i, cIn_sg, Option.bind_some, Option.map_some, List.length_map, if_true, if_false, Bool.not_true, Bool.not_false, Bool.false_eq_true, decide_true, decide_false, e0, iteM_s, List.length_cons, List.length_nil, Nat.zero_add, Nat.reduceAdd, show ((5 : Nat) : Int) = 5 from rfl, eq_self, uTup_e, uCons_e, uNil_e, ea, eb, ec, pSl_s]
      simp only [isC, hp, fitC]
      generalize decide (m < k) = A
      generalize decide (n < k) = B
      generalize decide ((a.length : Int) < m) = C
      generalize decide ((c.length : Int) < m) = C'
      generalize decide ((b.length : Int) < n) = D'
      generalize decide (cutS a (some (m - k)) (some m) = cutS b (some (n - k)) (some n)) = E
      generalize decide (cutS a (some m) none = cutS b (some n) none) = F
      generalize decide (cutS c none (some m) = cutS a none (some m)) = G
      cases A <;> cases B <;> cases C <;> cases C' <;> cases D' <;> cases E <;> cases F <;> cases G <;> rfl
    | none =>
      have := place_none hp
      have e0 : ((decide (i < 0) || decide ((known.length : Int) ≤ i)) || ((decide (j < 0) || decide ((known.length : Int) ≤ j)) || (decide (h < 0) || decide ((known.length : Int) ≤ h)))) = true := by
        rw [Bool.eq_iff_iff]
        simp only [Bool.or_eq_true, decide_eq_true_eq, iff_true]
        omega
      simp -implicitDefEqProofs only [b2_ss, bl_s, bindL_n, bindL_c, tupM_e, lstM_e, ap1_e, ap2_e, ap3_e, ap4_e, ap5_e, ap6_e, slM_s, loM_s, notM_s, bAnd_s, bOr_s, vAnd_s, vOr_s, notV_s, uTup_e, uNil_e, uCons_e, truth_b, truth_i, pInt_i, pAbs_i, pNeg_i, pAdd_i, pSub_i, pTup_l, pTup_t, pList_l, pList_t, pLen_l, pLen_t, pLen_s, pItm_l, pItm_t, pItm_s, pIx_l, pIx_t, pIxS_l, isi_ss, isi_tt, isi_bb, isi_ii, isi_bi, cEq_i, cNe_i, cEq_s, cNe_s, cLt_i, cGt_i, cLe_i, cGe_i, cIn_sg, Option.bind_some, Option.map_some, List.length_map, if_true, if_false, Bool.not_true, Bool.not_false, Bool.false_eq_true, decide_true, decide_false, e0, iteM_s, List.length_cons, List.length_nil, Nat.zero_add, Nat.reduceAdd, show ((5 : Nat) : Int) = 5 from rfl, eq_self]
      simp only [isC, hp]
  · have e1 : decide ((is.length : Int) = 5) = false := decide_eq_false (by omega)
    simp -implicitDefEqProofs only [b2_ss, bl_s, bindL_n, bindL_c, tupM_e, lstM_e, ap1_e, ap2_e, ap3_e, ap4_e, ap5_e, ap6_e, slM_s, loM_s, notM_s, bAnd_s, bOr_s, vAnd_s, vOr_s, notV_s, uTup_e, uNil_e, uCons_e, truth_b, truth_i, pInt_i, pAbs_i, pNeg_i, pAdd_i, pSub_i, pTup_l, pTup_t, pList_l, pList_t, pLen_l, pLen_t, pLen_s, pItm_l, pItm_t, pItm_s, pIx_l, pIx_t, pIxS_l, isi_ss, isi_tt, isi_bb, isi_ii, isi_bi, cEq_i, cNe_i, cEq_s, cNe_s, cLt_i, cGt_i, cLe_i, cGe_i, cIn_sg, Option.bind_some, Option.map_some, List.length_map, if_true, if_false, Bool.not_true, Bool.not_false, Bool.false_eq_true, decide_true, decide_false, e1, jn_s, iteM_s]
    congr 2
    unfold isC
    split
    · exact absurd rfl h4
    · rfl
theorem isC_len {known : List Str} {k : Int} {is : List Int} (h : isC known k is = true) : is.length = 5 := by
  unfold isC at h
  split at h
  · rfl
  · cases h
theorem h_corner_run {known : List Str} {i j h m n : Int} {a b c : Str} {B : Nat} (hB : B ≤ 1000000) (hp : place3 known i j h = some (a, b, c)) (hk : ∀ z ∈ known, z.length ≤ B) : m_corner_run (.list (known.map .str)) (.tuple [.int i, .int j, .int h, .int m, .int n]) = some (.str (catS b c m n)) := by
  obtain ⟨⟨i0, j0, h0⟩, ⟨i1, ea, _⟩, ⟨j1, eb, mb⟩, ⟨h1, ec, mc⟩⟩ := place_some hp
  unfold m_corner_run
  rw [pIx_l] at ea eb ec
  simp -implicitDefEqProofs only [b2_ss, bl_s, bindL_n, bindL_c, tupM_e, lstM_e, ap1_e, ap2_e, ap3_e, ap4_e, ap5_e, ap6_e, slM_s, loM_s, notM_s, bAnd_s, bOr_s, vAnd_s, vOr_s, notV_s, uTup_e, uNil_e, uCons_e, truth_b, truth_i, pInt_i, pAbs_i, pNeg_i, pAdd_i, pSub_i, pTup_l, pTup_t, pList_l, pList_t, pLen_l, pLen_t, pLen_s, pItm_l, pItm_t, pItm_s, pIx_l, pIx_t, pIxS_l, isi_ss, isi_tt, isi_bb, isi_ii, isi_bi, cEq_i, cNe_i, cEq_s, cNe_s, cLt_i, cGt_i, cLe_i, cGe_i, cIn_sg, Option.bind_some, Option.map_some, List.length_map, if_true, if_false, Bool.not_true, Bool.not_false, Bool.false_eq_true, decide_true, decide_false, uTup_e, uCons_e, uNil_e, eb, ec, pSl_s]
  have a1 := hk _ mb
  have a2 := hk _ mc
  simp -implicitDefEqProofs only [b2_ss, bl_s, bindL_n, bindL_c, tupM_e, lstM_e, ap1_e, ap2_e, ap3_e, ap4_e, ap5_e, ap6_e, slM_s, loM_s, notM_s, bAnd_s, bOr_s, vAnd_s, vOr_s, notV_s, uTup_e, uNil_e, uCons_e, truth_b, truth_i, pInt_i, pAbs_i, pNeg_i, pAdd_i, pSub_i, pTup_l, pTup_t, pList_l, pList_t, pLen_l, pLen_t, pLen_s, pItm_l, pItm_t, pItm_s, pIx_l, pIx_t, pIxS_l, isi_ss, isi_tt, isi_bb, isi_ii, isi_bi, cEq_i, cNe_i, cEq_s, cNe_s, cLt_i, cGt_i, cLe_i, cGe_i, cIn_sg, Option.bind_some, Option.map_some, List.length_map, if_true, if_false, Bool.not_true, Bool.not_false, Bool.false_eq_true, decide_true, decide_false, cat2 (a := cutS b none (some n)) (b := cutS c (some m) none) (Nat.le_trans (cut_len _ _ _) (by omega)) (Nat.le_trans (cut_len _ _ _) (by omega))]
  rfl
/-- both loops walk the lines in the same way -/
theorem run_for2 {f : PyData → PyData → Option (Ctl PyData PyData)} (rs : List Str) (k : Int) (B : Nat) {P : Str → List Int → Prop} (hf : ∀ (known : List Str) (w : Str) (is : List Int), known.length < 1000000 → (∀ z ∈ known, z.length ≤ B) → w.length ≤ B → P w is →
    f (.list (known.map .str)) (enc (w, is)) = some (if okC rs known k w is = true then .nx (.list ((known ++ [w]).map .str)) else .rt (.bool false))) :
    ∀ (lns : List (Str × List Int)) (known : List Str), known.length + lns.length < 1000000 → (∀ z ∈ known, z.length ≤ B) → (∀ l ∈ lns, l.1.length ≤ B) → (∀ l ∈ lns, P l.1 l.2) →
      forC f (lns.map enc) (.list (known.map .str)) = some (match runC rs k lns known with | some kn => .nx (.list (kn.map .str)) | none => .rt (.bool false))
  | [], known, _, _, _, _ => rfl
  | (w, is) :: lns, known, hl, hk, hw, hp => by
    have hw0 := hw (w, is) (by simp)
    rw [List.map_cons]
    unfold forC
    rw [hf known w is (by simp at hl; omega) hk hw0 (hp (w, is) (by simp)), Option.bind_some]
    unfold runC
    by_cases h : okC rs known k w is = true
    · rw [if_pos h, if_pos h]
      exact run_for2 rs k B hf lns (known ++ [w]) (by simp at hl ⊢; omega) (fun z m => by
        rcases List.mem_append.mp m with m | m
        · exact hk z m
        · rw [List.mem_singleton.mp m]; exact hw0) (fun l m => hw l (List.mem_cons_of_mem _ m)) fun l m => hp l (List.mem_cons_of_mem _ m)
    · rw [if_neg h, if_neg h]
def verdict (rs : List Str) (k : Int) (lns : List (Str × List Int)) (z : Str) : Bool := match runC rs k lns [] with
  | some kn => match kn.getLast? with
    | some w => decide (w = z)
    | none => false
  | none => false
theorem runC_len {rs : List Str} {k : Int} : ∀ {lns : List (Str × List Int)} {known kn : List Str}, runC rs k lns known = some kn → kn.length = known.length + lns.length
  | [], known, kn, h => by cases h; rfl
  | (w, is) :: lns, known, kn, h => by
    unfold runC at h
    split at h
    · have := runC_len h; simp at this ⊢; omega
    · cases h
theorem h_judge {rs : List Str} {k : Int} {lns : List (Str × List Int)} {z : Str} {B : Nat} (hB : B ≤ 1000000) (hl : lns.length < 1000000) (hw : ∀ l ∈ lns, l.1.length ≤ B) :
    m_judge_derivation (.tuple (rs.map .str)) (.int k) (.tuple (lns.map enc)) (.str z) = some (.bool (verdict rs k lns z)) := by
  unfold m_judge_derivation
  simp -implicitDefEqProofs only [b2_ss, bl_s, bindL_n, bindL_c, tupM_e, lstM_e, ap1_e, ap2_e, ap3_e, ap4_e, ap5_e, ap6_e, slM_s, loM_s, notM_s, bAnd_s, bOr_s, vAnd_s, vOr_s, notV_s, uTup_e, uNil_e, uCons_e, truth_b, truth_i, pInt_i, pAbs_i, pNeg_i, pAdd_i, pSub_i, pTup_l, pTup_t, pList_l, pList_t, pLen_l, pLen_t, pLen_s, pItm_l, pItm_t, pItm_s, pIx_l, pIx_t, pIxS_l, isi_ss, isi_tt, isi_bb, isi_ii, isi_bi, cEq_i, cNe_i, cEq_s, cNe_s, cLt_i, cGt_i, cLe_i, cGe_i, cIn_sg, Option.bind_some, Option.map_some, List.length_map, if_true, if_false, Bool.not_true, Bool.not_false, Bool.false_eq_true, decide_true, decide_false, jn_s, forM_s]
  rw [show (PyData.list []) = .list (([] : List Str).map .str) from rfl, run_for2 rs k B (P := fun _ _ => True) (fun known w is h1 h2 h3 _ => ?_) lns [] (by simpa using hl) (fun _ m => nomatch m) hw (fun _ _ => trivial)]
  · rw [Option.bind_some]
    unfold verdict
    cases hr : runC rs k lns [] with
    | none => rfl
    | some kn =>
      simp only [go_nx]
      rcases List.eq_nil_or_concat kn with rfl | ⟨kn', w, rfl⟩
      · rfl
      · rw [List.concat_eq_append]
        simp -implicitDefEqProofs only [b2_ss, bl_s, bindL_n, bindL_c, tupM_e, lstM_e, ap1_e, ap2_e, ap3_e, ap4_e, ap5_e, ap6_e, slM_s, loM_s, notM_s, bAnd_s, bOr_s, vAnd_s, vOr_s, notV_s, uTup_e, uNil_e, uCons_e, truth_b, truth_i, pInt_i, pAbs_i, pNeg_i, pAdd_i, pSub_i, pTup_l, pTup_t, pList_l, pList_t, pLen_l, pLen_t, pLen_s, pItm_l, pItm_t, pItm_s, pIx_l, pIx_t, pIxS_l, isi_ss, isi_tt, isi_bb, isi_ii, isi_bi, cEq_i, cNe_i, cEq_s, cNe_s, cLt_i, cGt_i, cLe_i, cGe_i, cIn_sg, Option.bind_some, Option.map_some, List.length_map, if_true, if_false, Bool.not_true, Bool.not_false, Bool.false_eq_true, decide_true, decide_false, pNeg_i]
        have e1 : decide ((0 : Int) < ((kn' ++ [w]).length : Int)) = true := decide_eq_true (by simp)
        have el : atI ((kn' ++ [w]).map PyData.str) (-1) = some (.str w) := (congrArg (fun l => atI l (-1)) List.map_append).trans (at_last _ _)
        simp -implicitDefEqProofs only [b2_ss, bl_s, bindL_n, bindL_c, tupM_e, lstM_e, ap1_e, ap2_e, ap3_e, ap4_e, ap5_e, ap6_e, slM_s, loM_s, notM_s, bAnd_s, bOr_s, vAnd_s, vOr_s, notV_s, uTup_e, uNil_e, uCons_e, truth_b, truth_i, pInt_i, pAbs_i, pNeg_i, pAdd_i, pSub_i, pTup_l, pTup_t, pList_l, pList_t, pLen_l, pLen_t, pLen_s, pItm_l, pItm_t, pItm_s, pIx_l, pIx_t, pIxS_l, isi_ss, isi_tt, isi_bb, isi_ii, isi_bi, cEq_i, cNe_i, cEq_s, cNe_s, cLt_i, cGt_i, cLe_i, cGe_i, cIn_sg, Option.bind_some, Option.map_some, List.length_map, if_true, if_false, Bool.not_true, Bool.not_false, Bool.false_eq_true, decide_true, decide_false, e1, el]
        rw [List.getLast?_concat]
  · unfold enc
    simp -implicitDefEqProofs only [b2_ss, bl_s, bindL_n, bindL_c, tupM_e, lstM_e, ap1_e, ap2_e, ap3_e, ap4_e, ap5_e, ap6_e, slM_s, loM_s, notM_s, bAnd_s, bOr_s, vAnd_s, vOr_s, notV_s, uTup_e, uNil_e, uCons_e, truth_b, truth_i, pInt_i, pAbs_i, pNeg_i, pAdd_i, pSub_i, pTup_l, pTup_t, pList_l, pList_t, pLen_l, pLen_t, pLen_s, pItm_l, pItm_t, pItm_s, pIx_l, pIx_t, pIxS_l, isi_ss, isi_tt, isi_bb, isi_ii, isi_bi, cEq_i, cNe_i, cEq_s, cNe_s, cLt_i, cGt_i, cLe_i, cGe_i, cIn_sg, Option.bind_some, Option.map_some, List.length_map, if_true, if_false, Bool.not_true, Bool.not_false, Bool.false_eq_true, decide_true, decide_false, uTup_e, uCons_e, uNil_e, app_str (zs := known) (z := w) (by omega), eq_empty, notin_strs, h_is_corner known k is (by omega), iteM_s]
    unfold okC
    cases he : is.isEmpty with
    | true =>
      simp -implicitDefEqProofs only [b2_ss, bl_s, bindL_n, bindL_c, tupM_e, lstM_e, ap1_e, ap2_e, ap3_e, ap4_e, ap5_e, ap6_e, slM_s, loM_s, notM_s, bAnd_s, bOr_s, vAnd_s, vOr_s, notV_s, uTup_e, uNil_e, uCons_e, truth_b, truth_i, pInt_i, pAbs_i, pNeg_i, pAdd_i, pSub_i, pTup_l, pTup_t, pList_l, pList_t, pLen_l, pLen_t, pLen_s, pItm_l, pItm_t, pItm_s, pIx_l, pIx_t, pIxS_l, isi_ss, isi_tt, isi_bb, isi_ii, isi_bi, cEq_i, cNe_i, cEq_s, cNe_s, cLt_i, cGt_i, cLe_i, cGe_i, cIn_sg, Option.bind_some, Option.map_some, List.length_map, if_true, if_false, Bool.not_true, Bool.not_false, Bool.false_eq_true, decide_true, decide_false]
      cases decide (w ∈ rs) <;> rfl
    | false =>
      simp -implicitDefEqProofs only [b2_ss, bl_s, bindL_n, bindL_c, tupM_e, lstM_e, ap1_e, ap2_e, ap3_e, ap4_e, ap5_e, ap6_e, slM_s, loM_s, notM_s, bAnd_s, bOr_s, vAnd_s, vOr_s, notV_s, uTup_e, uNil_e, uCons_e, truth_b, truth_i, pInt_i, pAbs_i, pNeg_i, pAdd_i, pSub_i, pTup_l, pTup_t, pList_l, pList_t, pLen_l, pLen_t, pLen_s, pItm_l, pItm_t, pItm_s, pIx_l, pIx_t, pIxS_l, isi_ss, isi_tt, isi_bb, isi_ii, isi_bi, cEq_i, cNe_i, cEq_s, cNe_s, cLt_i, cGt_i, cLe_i, cGe_i, cIn_sg, Option.bind_some, Option.map_some, List.length_map, if_true, if_false, Bool.not_true, Bool.not_false, Bool.false_eq_true, decide_true, decide_false]
      cases hs : isC known k is with
      | false => rfl
      | true =>
        have h4 := isC_len hs
        obtain ⟨i, j, h, m, n, rfl⟩ := len5 h4
        obtain ⟨o, hp⟩ : ∃ o, place3 known i j h = o := ⟨_, rfl⟩
        cases o with
        | none => simp [isC, hp] at hs
        | some abc =>
          obtain ⟨a, b, c⟩ := abc
          simp -implicitDefEqProofs only [b2_ss, bl_s, bindL_n, bindL_c, tupM_e, lstM_e, ap1_e, ap2_e, ap3_e, ap4_e, ap5_e, ap6_e, slM_s, loM_s, notM_s, bAnd_s, bOr_s, vAnd_s, vOr_s, notV_s, uTup_e, uNil_e, uCons_e, truth_b, truth_i, pInt_i, pAbs_i, pNeg_i, pAdd_i, pSub_i, pTup_l, pTup_t, pList_l, pList_t, pLen_l, pLen_t, pLen_s, pItm_l, pItm_t, pItm_s, pIx_l, pIx_t, pIxS_l, isi_ss, isi_tt, isi_bb, isi_ii, isi_bi, cEq_i, cNe_i, cEq_s, cNe_s, cLt_i, cGt_i, cLe_i, cGe_i, cIn_sg, Option.bind_some, Option.map_some, List.length_map, if_true, if_false, Bool.not_true, Bool.not_false, Bool.false_eq_true, decide_true, decide_false, List.map_cons, List.map_nil, h_corner_run hB hp h2]
          simp only [hp]
          cases decide (catS b c m n = w) <;> rfl
/-- words and numbers of lines not too long, words of letters -/
def Lns (ls : List Nat) (A : Nat) (lns : List (Str × List Int)) : Prop := ∀ l ∈ lns, Wd ls A l.1 ∧ l.2.length ≤ 50
/-- each reason names lines before its own -/
def Gd (lns : List (Str × List Int)) : Prop := ∀ (p : Nat) (l : Str × List Int), lns[p]? = some l → l.2 = [] ∨ ∃ i j h m n : Int, l.2 = [i, j, h, m, n] ∧ (0 ≤ j ∧ j < p) ∧ (0 ≤ h ∧ h < p)
theorem noL_enc (l : Str × List Int) : noL (enc l) = true := by simp [enc, noL, noLs, noLs_ints]
theorem app_enc {lns : List (Str × List Int)} {l : Str × List Int} (h : lns.length < 16777216) : pApp (.list (lns.map enc)) (enc l) = some (.list ((lns ++ [l]).map enc)) := by
  show (if _ then _ else _) = _
  rw [if_pos (by simpa using h), List.map_append]; rfl
theorem cutD_map {α : Type} (f : α → PyData) (xs : List α) (lo hi : Option Int) : ∃ ys : List α, cutD (xs.map f) lo hi = ys.map f ∧ ys.length ≤ xs.length ∧ ∀ y ∈ ys, y ∈ xs := by
  unfold cutD
  rw [List.length_map]
  refine ⟨(xs.drop (HT.sIx xs.length 0 lo)).take (HT.sIx xs.length xs.length hi - HT.sIx xs.length 0 lo), by rw [List.map_take, List.map_drop], by simp only [List.length_take, List.length_drop]; omega, fun y m => List.mem_of_mem_drop (List.mem_of_mem_take m)⟩
theorem cut_enc (lns : List (Str × List Int)) (lo hi : Option Int) : ∃ l2 : List (Str × List Int), cutD (lns.map enc) lo hi = l2.map enc ∧ l2.length ≤ lns.length ∧ ∀ l ∈ l2, l ∈ lns := cutD_map enc lns lo hi
theorem cut_ints (is : List Int) (lo hi : Option Int) : ∃ l2 : List Int, cutD (is.map .int) lo hi = l2.map .int ∧ l2.length ≤ is.length ∧ ∀ l ∈ l2, l ∈ is := cutD_map PyData.int is lo hi
theorem add_enc {a b : List (Str × List Int)} (h : a.length + b.length ≤ 16777216) : pAdd (.list (a.map enc)) (.list (b.map enc)) = some (.list ((a ++ b).map enc)) := by
  rw [add_l (by simpa using h), List.map_append]
theorem add_ints {a b : List Int} (h : a.length + b.length ≤ 16777216) : pAdd (.tuple (a.map .int)) (.tuple (b.map .int)) = some (.tuple ((a ++ b).map .int)) := by
  rw [add_t (by simpa using h), List.map_append]
theorem Gd.five {lns : List (Str × List Int)} (h : Gd lns) {l : Str × List Int} (m : l ∈ lns) : l.2.length ≤ 5 := by
  obtain ⟨p, hp, rfl⟩ := List.getElem_of_mem m
  rcases h p _ (List.getElem?_eq_getElem hp) with e | ⟨i, j, h, m, n, e, _⟩ <;> rw [e] <;> simp
theorem last_enc (lns : List (Str × List Int)) (l : Str × List Int) : atI ((lns ++ [l]).map enc) (-1) = some (enc l) := (congrArg (fun z => atI z (-1)) List.map_append).trans (at_last _ _)
theorem enc_0 (l : Str × List Int) : pIx (enc l) (.int 0) = some (.str l.1) := rfl
theorem enc_1 (l : Str × List Int) : pIx (enc l) (.int 1) = some (.tuple (l.2.map .int)) := rfl
theorem add_strs {rs : List Str} {z : Str} (h : rs.length ≤ 1000000) : pAdd (.tuple (rs.map .str)) (.tuple [.str z]) = some (.tuple ((rs ++ [z]).map .str)) := by
  rw [add_t (by simp; omega), List.map_append]; rfl
theorem len_set3 (is : List Int) (h : is.length = 5) (p : Int) (x : Int) (h0 : 0 ≤ p) (h1 : p < 5) : ∃ a b c d e : Int, (cutD (is.map PyData.int) none (some p) ++ [PyData.int x]) ++ cutD (is.map PyData.int) (some (p + 1)) none = [a, b, c, d, e].map .int ∧ (some b = if p = 1 then some x else is[1]?) ∧ (some c = if p = 2 then some x else is[2]?) := by
  obtain ⟨a, b, c, d, e, rfl⟩ := len5 h
  have h3 : p = 0 ∨ p = 1 ∨ p = 2 ∨ p = 3 ∨ p = 4 := by omega
  rcases h3 with rfl | rfl | rfl | rfl | rfl
  · exact ⟨x, b, c, d, e, rfl, rfl, rfl⟩
  · exact ⟨a, x, c, d, e, rfl, rfl, rfl⟩
  · exact ⟨a, b, x, d, e, rfl, rfl, rfl⟩
  · exact ⟨a, b, c, x, e, rfl, rfl, rfl⟩
  · exact ⟨a, b, c, d, x, rfl, rfl, rfl⟩
theorem h_cell (ns : List Int) {k : Int} (hk : 0 ≤ k) : ∃ c : Int, m__law_cell (.list (ns.map .int)) (.int k) = some (.int c) := by
  unfold m__law_cell
  have e1 : pMul (.int 5) (.int k) = some (.int (5 * k)) := mul_l (by decide) (by decide)
  simp -implicitDefEqProofs only [b2_ss, bl_s, bindL_n, bindL_c, tupM_e, lstM_e, ap1_e, ap2_e, ap3_e, ap4_e, ap5_e, ap6_e, slM_s, loM_s, notM_s, bAnd_s, bOr_s, vAnd_s, vOr_s, notV_s, uTup_e, uNil_e, uCons_e, truth_b, truth_i, pInt_i, pAbs_i, pNeg_i, pAdd_i, pSub_i, pTup_l, pTup_t, pList_l, pList_t, pLen_l, pLen_t, pLen_s, pItm_l, pItm_t, pItm_s, pIx_l, pIx_t, pIxS_l, isi_ss, isi_tt, isi_bb, isi_ii, isi_bi, cEq_i, cNe_i, cEq_s, cNe_s, cLt_i, cGt_i, cLe_i, cGe_i, cIn_sg, Option.bind_some, Option.map_some, List.length_map, if_true, if_false, Bool.not_true, Bool.not_false, Bool.false_eq_true, decide_true, decide_false, jn_s, iteM_s, e1]
  by_cases h : k < ns.length
  · refine ⟨ns[k.toNat]'(by omega), ?_⟩
    rw [decide_eq_true h, if_pos rfl, at_int hk (by simpa using h)]
    simp
  · exact ⟨5 * k + 3, by rw [decide_eq_false h, if_neg (by decide)]⟩
theorem h_draws (c : Int) {n : Int} (h0 : 0 ≤ n) (hn : n ≤ 1000) : Sat (m__law_draws (.int c) (.int n)) fun r => ∃ ds : List Int, r = .list (ds.map .int) ∧ ds.length = n.toNat ∧ ∀ d ∈ ds, 0 ≤ d ∧ d < 5040 := by
  unfold m__law_draws
  have p10 : pPow (.int 10) (.int 18) = some (.int (10 ^ 18)) := by rfl
  have e1 : ∀ x : Int, pMul (.int x) (.int 48271) = some (.int (x * 48271)) := fun x => mul_r (by decide) (by decide)
  have e2 : ∀ x : Int, pMul (.int x) (.int 69621) = some (.int (x * 69621)) := fun x => mul_r (by decide) (by decide)
  have e3 : ∀ x : Int, pMul (.int 40692) (.int x) = some (.int (40692 * x)) := fun x => mul_l (by decide) (by decide)
  have e4 : ∀ x : Int, pMod (.int x) (.int 2147483647) = some (.int (x % 2147483647)) := fun x => mod_i (by decide)
  have e5 : ∀ x : Int, pMod (.int x) (.int 2147483399) = some (.int (x % 2147483399)) := fun x => mod_i (by decide)
  have e6 : ∀ x : Int, pMod (.int x) (.int 5040) = some (.int (x % 5040)) := fun x => mod_i (by decide)
  have e7 : ∀ x : Int, pFdiv (.int x) (.int 64) = some (.int (x / 64)) := fun x => fdiv_i (by decide) (by decide)
  have e8 : ∀ x : Int, pMul (.int (x % 2147483647)) (.int (x % 2147483647)) = some (.int (x % 2147483647 * (x % 2147483647))) := fun x => by
    have := Int.emod_nonneg x (show (2147483647 : Int) ≠ 0 by decide)
    have := Int.emod_lt_of_pos x (show (0 : Int) < 2147483647 by decide)
    exact mul_r (by omega) (by omega)
  have e9 : ∀ x : Int, pFdiv (.int x) (.int 5040) = some (.int (x / 5040)) := fun x => fdiv_i (by decide) (by decide)
  generalize ha : (if c < 0 then -c else c) = sd
  simp -implicitDefEqProofs only [b2_ss, bl_s, bindL_n, bindL_c, tupM_e, lstM_e, ap1_e, ap2_e, ap3_e, ap4_e, ap5_e, ap6_e, slM_s, loM_s, notM_s, bAnd_s, bOr_s, vAnd_s, vOr_s, notV_s, uTup_e, uNil_e, uCons_e, truth_b, truth_i, pInt_i, pAbs_i, pNeg_i, pAdd_i, pSub_i, pTup_l, pTup_t, pList_l, pList_t, pLen_l, pLen_t, pLen_s, pItm_l, pItm_t, pItm_s, pIx_l, pIx_t, pIxS_l, isi_ss, isi_tt, isi_bb, isi_ii, isi_bi, cEq_i, cNe_i, cEq_s, cNe_s, cLt_i, cGt_i, cLe_i, cGe_i, cIn_sg, Option.bind_some, Option.map_some, List.length_map, if_true, if_false, Bool.not_true, Bool.not_false, Bool.false_eq_true, decide_true, decide_false, p10, ha, jn_s]
  refine sat_rng (fun i (t : PyData × PyData) => ∃ (rest : Int) (ds : List Int), t = (.int rest, .list (ds.map .int)) ∧ ds.length = i ∧ ∀ d ∈ ds, 0 ≤ d ∧ d < 5040) n.toNat (rng1 h0 (by omega)) ⟨_, [], rfl, rfl, fun _ m => nomatch m⟩ ?_ ?_
  · rintro i t hi ⟨rest, ds, rfl, hl, hd⟩
    have app : ∀ e : Int, pApp (.list (ds.map .int)) (.int e) = some (.list ((ds ++ [e]).map .int)) := fun e => by
      show (if _ then _ else _) = _
      rw [if_pos (by rw [List.length_map]; omega), List.map_append]; rfl
    have mem : ∀ e : Int, 0 ≤ e → e < 5040 → (ds ++ [e]).length = i + 1 ∧ ∀ d ∈ ds ++ [e], 0 ≤ d ∧ d < 5040 := fun e h1 h2 => ⟨by simp [hl], fun d m => by
      rcases List.mem_append.mp m with m | m
      · exact hd d m
      · obtain rfl := List.mem_singleton.mp m; exact ⟨h1, h2⟩⟩
    have hc : ∃ b : Bool, (if decide (10 ^ 18 ≤ sd) = true then some (decide (0 < rest)) else some false) = some b := by
      split
      · exact ⟨_, rfl⟩
      · exact ⟨_, rfl⟩
    obtain ⟨b, hb⟩ := hc
    simp -implicitDefEqProofs only [b2_ss, bl_s, bindL_n, bindL_c, tupM_e, lstM_e, ap1_e, ap2_e, ap3_e, ap4_e, ap5_e, ap6_e, slM_s, loM_s, notM_s, bAnd_s, bOr_s, vAnd_s, vOr_s, notV_s, uTup_e, uNil_e, uCons_e, truth_b, truth_i, pInt_i, pAbs_i, pNeg_i, pAdd_i, pSub_i, pTup_l, pTup_t, pList_l, pList_t, pLen_l, pLen_t, pLen_s, pItm_l, pItm_t, pItm_s, pIx_l, pIx_t, pIxS_l, isi_ss, isi_tt, isi_bb, isi_ii, isi_bi, cEq_i, cNe_i, cEq_s, cNe_s, cLt_i, cGt_i, cLe_i, cGe_i, cIn_sg, Option.bind_some, Option.map_some, List.length_map, if_true, if_false, Bool.not_true, Bool.not_false, Bool.false_eq_true, decide_true, decide_false, hb, e1, e2, e3, e4, e5, e6, e7, e8, e9, app]
    refine sat_ite (fun _ => ?_) (fun _ => ?_)
    · exact sat_some ⟨_, rfl, _, _, rfl, mem _ (Int.emod_nonneg _ (by decide)) (Int.emod_lt_of_pos _ (by decide))⟩
    · exact sat_some ⟨_, rfl, _, _, rfl, mem _ (Int.emod_nonneg _ (by decide)) (Int.emod_lt_of_pos _ (by decide))⟩
  · rintro t ⟨rest, ds, rfl, hl, hd⟩
    exact sat_some ⟨ds, rfl, hl, hd⟩
theorem h_is_integer (i : Int) : m__law_is_integer (.int i) = some (.bool true) := by
  unfold m__law_is_integer
  simp -implicitDefEqProofs only [b2_ss, bl_s, bindL_n, bindL_c, tupM_e, lstM_e, ap1_e, ap2_e, ap3_e, ap4_e, ap5_e, ap6_e, slM_s, loM_s, notM_s, bAnd_s, bOr_s, vAnd_s, vOr_s, notV_s, uTup_e, uNil_e, uCons_e, truth_b, truth_i, pInt_i, pAbs_i, pNeg_i, pAdd_i, pSub_i, pTup_l, pTup_t, pList_l, pList_t, pLen_l, pLen_t, pLen_s, pItm_l, pItm_t, pItm_s, pIx_l, pIx_t, pIxS_l, isi_ss, isi_tt, isi_bb, isi_ii, isi_bi, cEq_i, cNe_i, cEq_s, cNe_s, cLt_i, cGt_i, cLe_i, cGe_i, cIn_sg, Option.bind_some, Option.map_some, List.length_map, if_true, if_false, Bool.not_true, Bool.not_false, Bool.false_eq_true, decide_true, decide_false]
theorem h_is_run {z : Str} (h : IsRun z) (hl : z.length ≤ 16777216) : m__law_is_run (.str z) = some (.bool true) := by
  unfold m__law_is_run
  simp only [Option.bind_some, isi_ss, vAnd_s, truth_b, if_pos, pItm_s]
  rw [lc_all (fun _ => .bool true) (by simpa [Str.length] using hl) (fun x hx => by
    obtain ⟨c, hc, rfl⟩ := List.mem_map.mp hx
    rw [Option.bind_some, b2_ss]
    show bl (cIn (sgn c) (.str abc)) = _
    rw [cIn_sg, decide_eq_true (abc_mem.mpr (h c hc))]; rfl)]
  rw [Option.bind_some, all_true (fun d hd => by
    obtain ⟨_, _, rfl⟩ := List.mem_map.mp hd; rfl)]
  rfl
theorem h_letters {d n : Int} (hd : 0 ≤ d) (h0 : 0 ≤ n) (hn : n ≤ 1000) : Sat (m__law_letters (.int d) (.int n)) fun r => ∃ ls : List Nat, r = .list (ls.map sgn) ∧ ls.length = n.toNat ∧ ∀ c ∈ ls, 97 ≤ c ∧ c ≤ 122 := by
  unfold m__law_letters
  have e1 : ∀ x : Int, pMod (.int x) (.int 26) = some (.int (x % 26)) := fun x => mod_i (by decide)
  have e2 : ∀ x : Int, pFdiv (.int x) (.int 26) = some (.int (x / 26)) := fun x => fdiv_i (by decide) (by decide)
  have e3 : ∀ x : Int, pMod (.int x) (.int 12) = some (.int (x % 12)) := fun x => mod_i (by decide)
  have hm : ∀ x : Int, pMul (.int (1 + d / 26 % 12)) (.int x) = some (.int ((1 + d / 26 % 12) * x)) := fun x => mul_l (by omega) (by omega)
  simp only [Option.bind_some, pInt_i, b2_ss, e1, e2, e3, pAdd_i]
  refine sat_bind (sat_bind (sat_lcr (fun _ y => ∃ c : Nat, y = sgn c ∧ 97 ≤ c ∧ c ≤ 122) n.toNat (rng1 h0 (by omega)) (by omega) (fun i hi => ?_) fun ys h2 h3 => ?_))
  · simp only [Option.bind_some, b2_ss, hm, pAdd_i, e1]
    have q1 := Int.emod_nonneg (d % 26 + (1 + d / 26 % 12) * (i : Int)) (show (26 : Int) ≠ 0 by decide)
    have q2 := Int.emod_lt_of_pos (d % 26 + (1 + d / 26 % 12) * (i : Int)) (show (0 : Int) < 26 by decide)
    generalize (d % 26 + (1 + d / 26 % 12) * (i : Int)) % 26 = r at q1 q2
    have hl : abc.cps.toList.length = 26 := by decide +kernel
    refine ⟨sgn (abc.cps.toList[r.toNat]'(by omega)), ?_, _, rfl, abc_mem.mp (List.getElem_mem _)⟩
    show (atI abc.cps.toList r).map _ = _
    rw [at_int q1 (by rw [hl]; omega)]; rfl
  · have hs : ∀ y ∈ ys, ∃ c : Nat, y = sgn c ∧ 97 ≤ c ∧ c ≤ 122 := fun y hy => by
      obtain ⟨i, hi, rfl⟩ := List.getElem_of_mem hy
      exact h3 i _ (List.getElem?_eq_getElem hi)
    obtain ⟨ls, h4, h5, h6⟩ := sort_sgn (ys := ys) (by omega) fun y hy => (hs y hy).imp fun c h => h.1
    refine ⟨_, h4, sat_some ⟨ls, rfl, by rw [h5, h2], fun c hc => ?_⟩⟩
    obtain ⟨c', e, h⟩ := hs _ (h6 c hc)
    have : c = c' := by simpa [sgn] using e
    rw [this]; exact h
theorem h_word {d L : Int} {ls : List Nat} (hd : 0 ≤ d) (h1 : 1 ≤ ls.length) (h2 : ls.length ≤ 1000) (h3 : 0 ≤ L) (h4 : L ≤ 1000) : Sat (m__law_word (.int d) (.list (ls.map sgn)) (.int L)) fun r => ∃ w : Str, r = .str w ∧ (w.length : Int) ≤ L ∧ ∀ c ∈ w.cps.toList, c ∈ ls := by
  unfold m__law_word
  have e1 : ∀ x : Int, pMod (.int x) (.int (L + 1)) = some (.int (x % (L + 1))) := fun x => mod_i (by omega)
  have e2 : ∀ x : Int, pFdiv (.int x) (.int (L + 1)) = some (.int (x / (L + 1))) := fun x => fdiv_i (by omega) (by omega)
  have e3 : ∀ x : Int, pMod (.int x) (.int (ls.length : Int)) = some (.int (x % ls.length)) := fun x => mod_i (by omega)
  have e4 : ∀ x : Int, pFdiv (.int x) (.int (ls.length : Int)) = some (.int (x / ls.length)) := fun x => fdiv_i (by omega) (by omega)
  have e5 : ∀ x : Int, pMul (.int 37) (.int x) = some (.int (37 * x)) := fun x => mul_l (by decide) (by decide)
  have q1 := Int.emod_nonneg d (show L + 1 ≠ 0 by omega)
  have q2 := Int.emod_lt_of_pos d (show 0 < L + 1 by omega)
  simp only [jn_s, Option.bind_some, pInt_i, b2_ss, pAdd_i, e1, e2, pLen_l, List.length_map]
  refine sat_rng (fun i (t : PyData × PyData) => ∃ (rest : Int) (w : Str), t = (.int rest, .str w) ∧ w.length = i ∧ ∀ c ∈ w.cps.toList, c ∈ ls) (d % (L + 1)).toNat (rng1 q1 (by omega)) ⟨_, _, rfl, rfl, fun _ m => nomatch m⟩ ?_ ?_
  · rintro i t hi ⟨rest, w, rfl, hw, hc⟩
    have r1 := Int.emod_nonneg rest (show (ls.length : Int) ≠ 0 by omega)
    have r2 := Int.emod_lt_of_pos rest (show 0 < (ls.length : Int) by omega)
    have hx : atI (ls.map sgn) (rest % ls.length) = some (sgn (ls[(rest % ls.length).toNat]'(by omega))) := by
      rw [at_int (xs := ls.map sgn) r1 (by simpa using r2), List.getElem_map]
    simp only [Option.bind_some, pInt_i, b2_ss, e3, e4, e5, pIx_l, pAdd_i, hx]
    rw [add_s (by rw [hw, show (⟨#[ls[(rest % ↑ls.length).toNat]'(by omega)]⟩ : Str).length = 1 from rfl]; omega)]
    refine sat_some ⟨_, rfl, _, _, rfl, by rw [len_app, hw]; rfl, fun c m => ?_⟩
    rcases mem_app m with m | m
    · exact hc c m
    · have : c = ls[(rest % ↑ls.length).toNat]'(by omega) := by simpa using m
      rw [this]; exact List.getElem_mem _
  · rintro t ⟨rest, w, rfl, hw, hc⟩
    exact sat_some ⟨w, rfl, by rw [hw]; omega, hc⟩
theorem h_runs (cell : Int) {ls : List Nat} {n L : Int} (h1 : 1 ≤ ls.length) (h2 : ls.length ≤ 1000) (n0 : 0 ≤ n) (n1 : n ≤ 200) (L0 : 0 ≤ L) (L1 : L ≤ 200) :
    Sat (m__law_runs (.int cell) (.list (ls.map sgn)) (.int n) (.int L)) fun r => ∃ rs : List Str, r = .tuple (rs.map .str) ∧ (rs.length : Int) ≤ n ∧ ∀ z ∈ rs, Wd ls L.toNat z := by
  unfold m__law_runs
  have e4 : ∀ x : Int, pMul (.int 4) (.int x) = some (.int (4 * x)) := fun x => mul_l (by decide) (by decide)
  have m4 : ∀ x : Int, pMod (.int x) (.int 4) = some (.int (x % 4)) := fun x => mod_i (by decide)
  have m3 : ∀ x : Int, pMod (.int x) (.int 3) = some (.int (x % 3)) := fun x => mod_i (by decide)
  have d4 : ∀ x : Int, pFdiv (.int x) (.int 4) = some (.int (x / 4)) := fun x => fdiv_i (by decide) (by decide)
  have mn : ∀ x : Int, pMod (.int x) (.int (n + 1)) = some (.int (x % (n + 1))) := fun x => mod_i (by omega)
  obtain ⟨_, hd, ds, rfl, hdl, hdr⟩ := h_draws cell (n := 5 + 4 * n) (by omega) (by omega)
  have D : Dr ds (5 + 4 * n).toNat := ⟨hdl, hdr⟩
  obtain ⟨x0, ex0, _, _⟩ := D.at (i := 0) (by decide) (by omega)
  simp -implicitDefEqProofs only [b2_ss, bl_s, bindL_n, bindL_c, tupM_e, lstM_e, ap1_e, ap2_e, ap3_e, ap4_e, ap5_e, ap6_e, slM_s, loM_s, notM_s, bAnd_s, bOr_s, vAnd_s, vOr_s, notV_s, uTup_e, uNil_e, uCons_e, truth_b, truth_i, pInt_i, pAbs_i, pNeg_i, pAdd_i, pSub_i, pTup_l, pTup_t, pList_l, pList_t, pLen_l, pLen_t, pLen_s, pItm_l, pItm_t, pItm_s, pIx_l, pIx_t, pIxS_l, isi_ss, isi_tt, isi_bb, isi_ii, isi_bi, cEq_i, cNe_i, cEq_s, cNe_s, cLt_i, cGt_i, cLe_i, cGe_i, cIn_sg, Option.bind_some, Option.map_some, List.length_map, if_true, if_false, Bool.not_true, Bool.not_false, Bool.false_eq_true, decide_true, decide_false, e4, hd, ex0, mn]
  have wd : ∀ (d l : Int), 0 ≤ d → 0 ≤ l → l ≤ 200 → ∃ w : Str, m__law_word (.int d) (.list (ls.map sgn)) (.int l) = some (.str w) ∧ Wd ls l.toNat w := fun d l hd hl0 hl => by
    obtain ⟨_, hw, w, rfl, a, b⟩ := h_word (d := d) (L := l) (ls := ls) hd h1 h2 hl0 (by omega)
    exact ⟨w, hw, by omega, b⟩
  refine sat_bind (sat_lcr (fun _ y => ∃ z : Str, y = .str z ∧ Wd ls 2 z) 4 (rng1 (by decide) (by decide)) (by decide) (fun i hi => ?_) fun ys hy1 hy2 => ?_)
  · obtain ⟨x, ex, hx, _⟩ := D.at (i := 1 + (i : Int)) (by omega) (by omega)
    obtain ⟨w, hw, ww⟩ := wd x 2 hx (by decide) (by decide)
    simp -implicitDefEqProofs only [b2_ss, bl_s, bindL_n, bindL_c, tupM_e, lstM_e, ap1_e, ap2_e, ap3_e, ap4_e, ap5_e, ap6_e, slM_s, loM_s, notM_s, bAnd_s, bOr_s, vAnd_s, vOr_s, notV_s, uTup_e, uNil_e, uCons_e, truth_b, truth_i, pInt_i, pAbs_i, pNeg_i, pAdd_i, pSub_i, pTup_l, pTup_t, pList_l, pList_t, pLen_l, pLen_t, pLen_s, pItm_l, pItm_t, pItm_s, pIx_l, pIx_t, pIxS_l, isi_ss, isi_tt, isi_bb, isi_ii, isi_bi, cEq_i, cNe_i, cEq_s, cNe_s, cLt_i, cGt_i, cLe_i, cGe_i, cIn_sg, Option.bind_some, Option.map_some, List.length_map, if_true, if_false, Bool.not_true, Bool.not_false, Bool.false_eq_true, decide_true, decide_false, ex, hw]
    exact sat_some ⟨w, rfl, ww⟩
  obtain ⟨ps, rfl, hps⟩ := strs_of (all_ix fun i y h => hy2 i y h)
  have hpl : ps.length = 4 := by simpa using hy1
  have pt : ∀ x : Int, ∃ p : Str, atI (ps.map PyData.str) (x % 4) = some (.str p) ∧ Wd ls 2 p := fun x => by
    obtain ⟨a, b⟩ := mod_pos x (n := 4) (by decide)
    exact ⟨_, at_map a (by rw [hpl]; exact b), hps _ (List.getElem_mem _)⟩
  obtain ⟨b0, b1⟩ := mod_pos x0 (n := n + 1) (by omega)
  refine sat_jn' (sat_rng (fun i (t : PyData) => ∃ rs : List Str, t = .list (rs.map .str) ∧ rs.length = i ∧ ∀ z ∈ rs, Wd ls L.toNat z) (x0 % (n + 1)).toNat (rng1 b0 (by omega)) ⟨[], rfl, rfl, fun _ m => nomatch m⟩ ?_ ?_)
  case refine_2 =>
    rintro t ⟨rs, rfl, hl, hz⟩
    exact sat_some ⟨rs, rfl, by omega, hz⟩
  rintro i t hi ⟨rs, rfl, hl, hz⟩
  obtain ⟨y5, ey5, _, _⟩ := D.at (i := 5 + 4 * (i : Int)) (by omega) (by omega)
  obtain ⟨y6, ey6, p6, _⟩ := D.at (i := 6 + 4 * (i : Int)) (by omega) (by omega)
  obtain ⟨y7, ey7, p7, _⟩ := D.at (i := 7 + 4 * (i : Int)) (by omega) (by omega)
  obtain ⟨y8, ey8, p8, _⟩ := D.at (i := 8 + 4 * (i : Int)) (by omega) (by omega)
  obtain ⟨q6, eq6, w6⟩ := pt y6
  obtain ⟨q7, eq7, w7⟩ := pt y7
  obtain ⟨q8, eq8, w8⟩ := pt y8
  obtain ⟨q9, eq9, w9⟩ := pt (y8 / 4)
  obtain ⟨u6, hu6, v6⟩ := wd y6 L p6 L0 L1
  obtain ⟨u7, hu7, v7⟩ := wd y7 2 p7 (by decide) (by decide)
  obtain ⟨r0, r1⟩ := mod_pos y8 (n := 4) (by decide)
  have wr := w7.rep (n := y8 % 4) 3 (by omega)
  have er : pMul (.str q7) (.int (y8 % 4)) = some (.str (repS q7 (y8 % 4))) := mul_s (by omega) (by omega) (by
    have := w7.len
    have : q7.length * (y8 % 4).toNat ≤ 2 * 3 := Nat.mul_le_mul this (by omega)
    omega)
  have c1 : pAdd (.str q6) (.str (repS q7 (y8 % 4))) = some (.str (q6 ++ repS q7 (y8 % 4))) := cat2 (Nat.le_trans w6.len (by decide)) (Nat.le_trans wr.len (by decide))
  have c2 : pAdd (.str (q6 ++ repS q7 (y8 % 4))) (.str q9) = some (.str (q6 ++ repS q7 (y8 % 4) ++ q9)) := cat2 (Nat.le_trans (w6.app wr).len (by decide)) (Nat.le_trans w9.len (by decide))
  have c3 : pAdd (.str q6) (.str u7) = some (.str (q6 ++ u7)) := cat2 (Nat.le_trans w6.len (by decide)) (Nat.le_trans v7.len (by decide))
  have c4 : pAdd (.str (q6 ++ u7)) (.str q8) = some (.str (q6 ++ u7 ++ q8)) := cat2 (Nat.le_trans (w6.app v7).len (by decide)) (Nat.le_trans w8.len (by decide))
  simp -implicitDefEqProofs only [b2_ss, bl_s, bindL_n, bindL_c, tupM_e, lstM_e, ap1_e, ap2_e, ap3_e, ap4_e, ap5_e, ap6_e, slM_s, loM_s, notM_s, bAnd_s, bOr_s, vAnd_s, vOr_s, notV_s, uTup_e, uNil_e, uCons_e, truth_b, truth_i, pInt_i, pAbs_i, pNeg_i, pAdd_i, pSub_i, pTup_l, pTup_t, pList_l, pList_t, pLen_l, pLen_t, pLen_s, pItm_l, pItm_t, pItm_s, pIx_l, pIx_t, pIxS_l, isi_ss, isi_tt, isi_bb, isi_ii, isi_bi, cEq_i, cNe_i, cEq_s, cNe_s, cLt_i, cGt_i, cLe_i, cGe_i, cIn_sg, Option.bind_some, Option.map_some, List.length_map, if_true, if_false, Bool.not_true, Bool.not_false, Bool.false_eq_true, decide_true, decide_false, e4, ey5, ey6, ey7, ey8, m3, m4, d4, eq6, eq7, eq8, eq9, hu6, hu7, er, c1, c2, c3, c4]
  refine sat_jn (fun t => ∃ z : Str, t = .str z ∧ Wd ls 1000 z) ?_ fun k' hk' => ?_
  · rintro t ⟨z, rfl, wz⟩
    simp -implicitDefEqProofs only [b2_ss, bl_s, bindL_n, bindL_c, tupM_e, lstM_e, ap1_e, ap2_e, ap3_e, ap4_e, ap5_e, ap6_e, slM_s, loM_s, notM_s, bAnd_s, bOr_s, vAnd_s, vOr_s, notV_s, uTup_e, uNil_e, uCons_e, truth_b, truth_i, pInt_i, pAbs_i, pNeg_i, pAdd_i, pSub_i, pTup_l, pTup_t, pList_l, pList_t, pLen_l, pLen_t, pLen_s, pItm_l, pItm_t, pItm_s, pIx_l, pIx_t, pIxS_l, isi_ss, isi_tt, isi_bb, isi_ii, isi_bi, cEq_i, cNe_i, cEq_s, cNe_s, cLt_i, cGt_i, cLe_i, cGe_i, cIn_sg, Option.bind_some, Option.map_some, List.length_map, if_true, if_false, Bool.not_true, Bool.not_false, Bool.false_eq_true, decide_true, decide_false, pSl_s, app_str (zs := rs) (z := cutS z none (some L)) (by omega)]
    refine sat_some ⟨_, rfl, _, rfl, by simp [hl], fun w m => ?_⟩
    rcases List.mem_append.mp m with m | m
    · exact hz w m
    · rw [List.mem_singleton.mp m]
      exact ⟨by have := cut_to_len (z := z) L0; omega, (wz.cut _ _).mem⟩
  · refine sat_ite (fun _ => hk' _ ⟨_, rfl, v6.le (by omega)⟩) fun _ => sat_ite (fun _ => hk' _ ⟨_, rfl, ((w6.app wr).app w9).le (by decide)⟩) fun _ => hk' _ ⟨_, rfl, ((w6.app v7).app w8).le (by decide)⟩
theorem h_ints_ok (is : List Int) (h : is.length ≤ 100000) : (lcM (some (is.map PyData.int)) some (fun _ => some true) (fun z14 => vAnd (m__law_is_integer z14) (bl (cGe z14 (.int 0))))).bind pAll = some (.bool (is.all fun i => decide (0 ≤ i))) := by
  rw [lc_all (fun d => .bool (match d with | .int i => decide (0 ≤ i) | _ => false)) (by simp; omega) (fun x hx => by
    obtain ⟨i, _, rfl⟩ := List.mem_map.mp hx
    rw [Option.bind_some, h_is_integer]
    simp -implicitDefEqProofs only [b2_ss, bl_s, bindL_n, bindL_c, tupM_e, lstM_e, ap1_e, ap2_e, ap3_e, ap4_e, ap5_e, ap6_e, slM_s, loM_s, notM_s, bAnd_s, bOr_s, vAnd_s, vOr_s, notV_s, uTup_e, uNil_e, uCons_e, truth_b, truth_i, pInt_i, pAbs_i, pNeg_i, pAdd_i, pSub_i, pTup_l, pTup_t, pList_l, pList_t, pLen_l, pLen_t, pLen_s, pItm_l, pItm_t, pItm_s, pIx_l, pIx_t, pIxS_l, isi_ss, isi_tt, isi_bb, isi_ii, isi_bi, cEq_i, cNe_i, cEq_s, cNe_s, cLt_i, cGt_i, cLe_i, cGe_i, cIn_sg, Option.bind_some, Option.map_some, List.length_map, if_true, if_false, Bool.not_true, Bool.not_false, Bool.false_eq_true, decide_true, decide_false])]
  rw [Option.bind_some, List.map_map]
  have e : (is.map ((fun d => PyData.bool (match d with | .int i => decide (0 ≤ i) | _ => false)) ∘ PyData.int)) = (is.map fun i => decide (0 ≤ i)).map PyData.bool := by rw [List.map_map]; rfl
  rw [e]
  show (asBs _).map _ = _
  rw [asBs_map]
  simp [List.all_map, Function.comp_def]
def isrunB (z : Str) : Bool := z.cps.toList.all fun c => decide (97 ≤ c ∧ c ≤ 122)
theorem isrunB_iff {z : Str} : isrunB z = true ↔ IsRun z := by
  unfold isrunB
  rw [List.all_eq_true]
  exact ⟨fun h c m => of_decide_eq_true (h c m), fun h c m => decide_eq_true (h c m)⟩
theorem h_is_run_b (z : Str) (hl : z.length ≤ 16777216) : m__law_is_run (.str z) = some (.bool (isrunB z)) := by
  unfold m__law_is_run
  simp only [Option.bind_some, isi_ss, vAnd_s, truth_b, if_pos, pItm_s]
  rw [lc_all (fun d => .bool (match d with | .str w => isrunB w | _ => true)) (by simpa [Str.length] using hl) (fun x hx => by
    obtain ⟨c, hc, rfl⟩ := List.mem_map.mp hx
    rw [Option.bind_some, b2_ss]
    show bl (cIn (sgn c) (.str abc)) = _
    rw [cIn_sg]
    show some (PyData.bool _) = some (PyData.bool (isrunB ⟨#[c]⟩))
    congr 2
    rw [Bool.eq_iff_iff, decide_eq_true_eq, abc_mem]
    simp [isrunB])]
  rw [Option.bind_some, List.map_map]
  have e : (z.cps.toList.map ((fun d => PyData.bool (match d with | .str w => isrunB w | _ => true)) ∘ sgn)) = (z.cps.toList.map fun c => decide (97 ≤ c ∧ c ≤ 122)).map PyData.bool := by
    rw [List.map_map]
    apply List.map_congr_left
    intro c _
    show PyData.bool (isrunB ⟨#[c]⟩) = .bool _
    simp [isrunB]
  rw [e]
  show ((asBs _).map _).bind some = _
  rw [asBs_map]
  simp [isrunB, List.all_map, Function.comp_def]
/-- the loop where all that is known are runs -/
theorem run_for3 {f : PyData → PyData → Option (Ctl PyData PyData)} (rs : List Str) (k : Int) (B : Nat) {P : Str → List Int → Prop} (K : Str → Prop) (hK : ∀ (known : List Str) (w : Str) (is : List Int), (∀ z ∈ known, K z) → okC rs known k w is = true → K w) (hf : ∀ (known : List Str) (w : Str) (is : List Int), known.length < 1000000 → (∀ z ∈ known, z.length ≤ B) → w.length ≤ B → P w is → (∀ z ∈ known, K z) →
    f (.list (known.map .str)) (enc (w, is)) = some (if okC rs known k w is = true then .nx (.list ((known ++ [w]).map .str)) else .rt (.bool false))) :
    ∀ (lns : List (Str × List Int)) (known : List Str), known.length + lns.length < 1000000 → (∀ z ∈ known, z.length ≤ B) → (∀ l ∈ lns, l.1.length ≤ B) → (∀ l ∈ lns, P l.1 l.2) → (∀ z ∈ known, K z) →
      forC f (lns.map enc) (.list (known.map .str)) = some (match runC rs k lns known with | some kn => .nx (.list (kn.map .str)) | none => .rt (.bool false))
  | [], known, _, _, _, _, _ => rfl
  | (w, is) :: lns, known, hl, hk, hw, hp, hq => by
    have hw0 := hw (w, is) (by simp)
    rw [List.map_cons]
    unfold forC
    rw [hf known w is (by simp at hl; omega) hk hw0 (hp (w, is) (by simp)) hq, Option.bind_some]
    unfold runC
    by_cases h : okC rs known k w is = true
    · rw [if_pos h, if_pos h]
      exact run_for3 rs k B K hK hf lns (known ++ [w]) (by simp at hl ⊢; omega) (fun z m => by
        rcases List.mem_append.mp m with m | m
        · exact hk z m
        · rw [List.mem_singleton.mp m]; exact hw0) (fun l m => hw l (List.mem_cons_of_mem _ m)) (fun l m => hp l (List.mem_cons_of_mem _ m)) fun z m => by
        rcases List.mem_append.mp m with m | m
        · exact hq z m
        · rw [List.mem_singleton.mp m]; exact hK known w is hq h
    · rw [if_neg h, if_neg h]
theorem okC_run {rs known : List Str} {k : Int} {w : Str} {is : List Int} (hr : ∀ z ∈ rs, IsRun z) (hk : ∀ z ∈ known, IsRun z) (h : okC rs known k w is = true) : IsRun w := by
  unfold okC at h
  split at h
  · exact hr w (of_decide_eq_true h)
  · rw [Bool.and_eq_true] at h
    obtain ⟨i, j, q, m, n, rfl⟩ := len5 (isC_len h.1)
    have h2 := h.2
    dsimp only at h2
    split at h2
    · rename_i a b c hp
      obtain ⟨_, _, ⟨_, _, mb⟩, _, _, mc⟩ := place_some hp
      rw [← of_decide_eq_true h2]
      intro x hx
      rcases mem_app hx with hx | hx
      · exact hk b mb x (cut_mem hx)
      · exact hk c mc x (cut_mem hx)
    · cases h2
theorem h_derives {rs : List Str} {k : Int} {lns : List (Str × List Int)} {z : Str} {B : Nat} (hk0 : 0 ≤ k) (hB : B ≤ 1000000) (hl : lns.length < 1000000) (hw : ∀ l ∈ lns, l.1.length ≤ B) (hi : ∀ l ∈ lns, l.2.length ≤ 100000) (hrs : ∀ z ∈ rs, IsRun z) :
    m__law_derives (.tuple (rs.map .str)) (.int k) (.tuple (lns.map enc)) (.str z) = some (.bool (verdict rs k lns z)) := by
  unfold m__law_derives
  cases lns with
  | nil =>
    simp -implicitDefEqProofs only [b2_ss, bl_s, bindL_n, bindL_c, tupM_e, lstM_e, ap1_e, ap2_e, ap3_e, ap4_e, ap5_e, ap6_e, slM_s, loM_s, notM_s, bAnd_s, bOr_s, vAnd_s, vOr_s, notV_s, uTup_e, uNil_e, uCons_e, truth_b, truth_i, pInt_i, pAbs_i, pNeg_i, pAdd_i, pSub_i, pTup_l, pTup_t, pList_l, pList_t, pLen_l, pLen_t, pLen_s, pItm_l, pItm_t, pItm_s, pIx_l, pIx_t, pIxS_l, isi_ss, isi_tt, isi_bb, isi_ii, isi_bi, cEq_i, cNe_i, cEq_s, cNe_s, cLt_i, cGt_i, cLe_i, cGe_i, cIn_sg, Option.bind_some, Option.map_some, List.length_map, if_true, if_false, Bool.not_true, Bool.not_false, Bool.false_eq_true, decide_true, decide_false, jn_s, iteM_s, List.map_nil, List.length_nil]
    rfl
  | cons l0 lns0 =>
    have hne : decide (((l0 :: lns0 : List (Str × List Int)).length : Int) = 0) = false := decide_eq_false (by simp; omega)
    simp -implicitDefEqProofs only [b2_ss, bl_s, bindL_n, bindL_c, tupM_e, lstM_e, ap1_e, ap2_e, ap3_e, ap4_e, ap5_e, ap6_e, slM_s, loM_s, notM_s, bAnd_s, bOr_s, vAnd_s, vOr_s, notV_s, uTup_e, uNil_e, uCons_e, truth_b, truth_i, pInt_i, pAbs_i, pNeg_i, pAdd_i, pSub_i, pTup_l, pTup_t, pList_l, pList_t, pLen_l, pLen_t, pLen_s, pItm_l, pItm_t, pItm_s, pIx_l, pIx_t, pIxS_l, isi_ss, isi_tt, isi_bb, isi_ii, isi_bi, cEq_i, cNe_i, cEq_s, cNe_s, cLt_i, cGt_i, cLe_i, cGe_i, cIn_sg, Option.bind_some, Option.map_some, List.length_map, if_true, if_false, Bool.not_true, Bool.not_false, Bool.false_eq_true, decide_true, decide_false, jn_s, hne, iteM_s, forM_s]
    generalize hgl : l0 :: lns0 = lns at *
    rw [show (PyData.list []) = .list (([] : List Str).map .str) from rfl, run_for3 rs k B (P := fun w is => is.length ≤ 100000) IsRun (fun known w is q1 q2 => okC_run hrs q1 q2) (fun known w is h1 h2 h3 h5 hkn => ?_) lns [] (by simpa using hl) (fun _ m => nomatch m) hw hi (fun _ m => nomatch m)]
    · rw [Option.bind_some]
      unfold verdict
      cases hr : runC rs k lns [] with
      | none => rfl
      | some kn =>
        simp only [go_nx]
        have hkl := runC_len hr
        rcases List.eq_nil_or_concat kn with rfl | ⟨kn', w, rfl⟩
        · subst hgl; simp at hkl
        · rw [List.concat_eq_append]
          have el : atI ((kn' ++ [w]).map PyData.str) (-1) = some (.str w) := (congrArg (fun l => atI l (-1)) List.map_append).trans (at_last _ _)
          simp -implicitDefEqProofs only [b2_ss, bl_s, bindL_n, bindL_c, tupM_e, lstM_e, ap1_e, ap2_e, ap3_e, ap4_e, ap5_e, ap6_e, slM_s, loM_s, notM_s, bAnd_s, bOr_s, vAnd_s, vOr_s, notV_s, uTup_e, uNil_e, uCons_e, truth_b, truth_i, pInt_i, pAbs_i, pNeg_i, pAdd_i, pSub_i, pTup_l, pTup_t, pList_l, pList_t, pLen_l, pLen_t, pLen_s, pItm_l, pItm_t, pItm_s, pIx_l, pIx_t, pIxS_l, isi_ss, isi_tt, isi_bb, isi_ii, isi_bi, cEq_i, cNe_i, cEq_s, cNe_s, cLt_i, cGt_i, cLe_i, cGe_i, cIn_sg, Option.bind_some, Option.map_some, List.length_map, if_true, if_false, Bool.not_true, Bool.not_false, Bool.false_eq_true, decide_true, decide_false, pNeg_i, el]
          rw [List.getLast?_concat]
    · by_cases hrb : isrunB w = true
      case neg =>
        have hno : okC rs known k w is = false := by
          cases hq : okC rs known k w is with
          | false => rfl
          | true => exact absurd (isrunB_iff.mpr (okC_run hrs hkn hq)) hrb
        have hrb' : isrunB w = false := by simpa using hrb
        rw [hno]
        unfold enc
        have a0 : atI [PyData.str w, PyData.tuple (is.map .int)] 0 = some (.str w) := rfl
        simp -implicitDefEqProofs only [b2_ss, bl_s, bindL_n, bindL_c, tupM_e, lstM_e, ap1_e, ap2_e, ap3_e, ap4_e, ap5_e, ap6_e, slM_s, loM_s, notM_s, bAnd_s, bOr_s, vAnd_s, vOr_s, notV_s, uTup_e, uNil_e, uCons_e, truth_b, truth_i, pInt_i, pAbs_i, pNeg_i, pAdd_i, pSub_i, pTup_l, pTup_t, pList_l, pList_t, pLen_l, pLen_t, pLen_s, pItm_l, pItm_t, pItm_s, pIx_l, pIx_t, pIxS_l, isi_ss, isi_tt, isi_bb, isi_ii, isi_bi, cEq_i, cNe_i, cEq_s, cNe_s, cLt_i, cGt_i, cLe_i, cGe_i, cIn_sg, Option.bind_some, Option.map_some, List.length_map, if_true, if_false, Bool.not_true, Bool.not_false, Bool.false_eq_true, decide_true, decide_false, a0, List.length_cons, List.length_nil, Nat.zero_add, Nat.reduceAdd, show ((2 : Nat) : Int) = 2 from rfl, eq_self, iteM_s, h_is_run_b w (by omega), hrb']
      have hrun := isrunB_iff.mp hrb
      unfold enc
      have a0 : atI [PyData.str w, PyData.tuple (is.map .int)] 0 = some (.str w) := rfl
      have a1 : atI [PyData.str w, PyData.tuple (is.map .int)] 1 = some (.tuple (is.map .int)) := rfl
      simp -implicitDefEqProofs only [b2_ss, bl_s, bindL_n, bindL_c, tupM_e, lstM_e, ap1_e, ap2_e, ap3_e, ap4_e, ap5_e, ap6_e, slM_s, loM_s, notM_s, bAnd_s, bOr_s, vAnd_s, vOr_s, notV_s, uTup_e, uNil_e, uCons_e, truth_b, truth_i, pInt_i, pAbs_i, pNeg_i, pAdd_i, pSub_i, pTup_l, pTup_t, pList_l, pList_t, pLen_l, pLen_t, pLen_s, pItm_l, pItm_t, pItm_s, pIx_l, pIx_t, pIxS_l, isi_ss, isi_tt, isi_bb, isi_ii, isi_bi, cEq_i, cNe_i, cEq_s, cNe_s, cLt_i, cGt_i, cLe_i, cGe_i, cIn_sg, Option.bind_some, Option.map_some, List.length_map, if_true, if_false, Bool.not_true, Bool.not_false, Bool.false_eq_true, decide_true, decide_false, a0, a1, List.length_cons, List.length_nil, Nat.zero_add, Nat.reduceAdd, show ((2 : Nat) : Int) = 2 from rfl, eq_self, iteM_s, app_str (zs := known) (z := w) (by omega), eq_empty, notin_strs, h_ints_ok is h5, h_is_run hrun (by omega)]
      unfold okC
      cases he : is.isEmpty with
      | true =>
        simp -implicitDefEqProofs only [b2_ss, bl_s, bindL_n, bindL_c, tupM_e, lstM_e, ap1_e, ap2_e, ap3_e, ap4_e, ap5_e, ap6_e, slM_s, loM_s, notM_s, bAnd_s, bOr_s, vAnd_s, vOr_s, notV_s, uTup_e, uNil_e, uCons_e, truth_b, truth_i, pInt_i, pAbs_i, pNeg_i, pAdd_i, pSub_i, pTup_l, pTup_t, pList_l, pList_t, pLen_l, pLen_t, pLen_s, pItm_l, pItm_t, pItm_s, pIx_l, pIx_t, pIxS_l, isi_ss, isi_tt, isi_bb, isi_ii, isi_bi, cEq_i, cNe_i, cEq_s, cNe_s, cLt_i, cGt_i, cLe_i, cGe_i, cIn_sg, Option.bind_some, Option.map_some, List.length_map, if_true, if_false, Bool.not_true, Bool.not_false, Bool.false_eq_true, decide_true, decide_false]
        cases decide (w ∈ rs) <;> rfl
      | false =>
        simp -implicitDefEqProofs only [b2_ss, bl_s, bindL_n, bindL_c, tupM_e, lstM_e, ap1_e, ap2_e, ap3_e, ap4_e, ap5_e, ap6_e, slM_s, loM_s, notM_s, bAnd_s, bOr_s, vAnd_s, vOr_s, notV_s, uTup_e, uNil_e, uCons_e, truth_b, truth_i, pInt_i, pAbs_i, pNeg_i, pAdd_i, pSub_i, pTup_l, pTup_t, pList_l, pList_t, pLen_l, pLen_t, pLen_s, pItm_l, pItm_t, pItm_s, pIx_l, pIx_t, pIxS_l, isi_ss, isi_tt, isi_bb, isi_ii, isi_bi, cEq_i, cNe_i, cEq_s, cNe_s, cLt_i, cGt_i, cLe_i, cGe_i, cIn_sg, Option.bind_some, Option.map_some, List.length_map, if_true, if_false, Bool.not_true, Bool.not_false, Bool.false_eq_true, decide_true, decide_false]
        by_cases h4 : is.length = 5
        · obtain ⟨i, j, h, m, n, rfl⟩ := len5 h4
          have b0 : atI ([i, j, h, m, n].map PyData.int) 0 = some (.int i) := rfl
          have b1 : atI ([i, j, h, m, n].map PyData.int) 1 = some (.int j) := rfl
          have b2' : atI ([i, j, h, m, n].map PyData.int) 2 = some (.int h) := rfl
          have b3 : atI ([i, j, h, m, n].map PyData.int) 3 = some (.int m) := rfl
          have b4 : atI ([i, j, h, m, n].map PyData.int) 4 = some (.int n) := rfl
          simp -implicitDefEqProofs only [b2_ss, bl_s, bindL_n, bindL_c, tupM_e, lstM_e, ap1_e, ap2_e, ap3_e, ap4_e, ap5_e, ap6_e, slM_s, loM_s, notM_s, bAnd_s, bOr_s, vAnd_s, vOr_s, notV_s, uTup_e, uNil_e, uCons_e, truth_b, truth_i, pInt_i, pAbs_i, pNeg_i, pAdd_i, pSub_i, pTup_l, pTup_t, pList_l, pList_t, pLen_l, pLen_t, pLen_s, pItm_l, pItm_t, pItm_s, pIx_l, pIx_t, pIxS_l, isi_ss, isi_tt, isi_bb, isi_ii, isi_bi, cEq_i, cNe_i, cEq_s, cNe_s, cLt_i, cGt_i, cLe_i, cGe_i, cIn_sg, Option.bind_some, Option.map_some, List.length_map, if_true, if_false, Bool.not_true, Bool.not_false, Bool.false_eq_true, decide_true, decide_false, List.length_cons, List.length_nil, Nat.zero_add, Nat.reduceAdd, show ((5 : Nat) : Int) = 5 from rfl, eq_self, b0, b1, b2', b3, b4]
          cases hall : ([i, j, h, m, n].all fun i => decide (0 ≤ i)) with
          | false =>
            have hs : isC known k [i, j, h, m, n] = false := by
              cases hq : isC known k [i, j, h, m, n] with
              | false => rfl
              | true =>
                exfalso
                simp only [isC] at hq
                split at hq
                · rename_i a b c hp
                  obtain ⟨⟨i0, j0, h0⟩, _⟩ := place_some hp
                  unfold fitC at hq
                  simp only [Bool.and_eq_true, Bool.not_eq_true', Bool.or_eq_false_iff, decide_eq_false_iff_not, decide_eq_true_eq] at hq
                  simp only [List.all_cons, List.all_nil, Bool.and_true, Bool.and_eq_false_iff, decide_eq_false_iff_not] at hall
                  omega
                · cases hq
            rw [hs]
            rfl
          | true =>
            simp only [List.all_cons, List.all_nil, Bool.and_true, Bool.and_eq_true, decide_eq_true_eq] at hall
            obtain ⟨o, hp⟩ : ∃ o, place3 known i j h = o := ⟨_, rfl⟩
            cases o with
            | none =>
              have hn := place_none hp
              have hs : isC known k [i, j, h, m, n] = false := by simp only [isC, hp]
              have e1 : (if decide ((known.length : Int) ≤ i) = true then some true else if decide ((known.length : Int) ≤ j) = true then some true else some (decide ((known.length : Int) ≤ h))) = some true := by
                by_cases q : (known.length : Int) ≤ i
                · rw [if_pos (decide_eq_true q)]
                · rw [if_neg (by simpa using q)]
                  by_cases q2 : (known.length : Int) ≤ j
                  · rw [if_pos (decide_eq_true q2)]
                  · rw [if_neg (by simpa using q2), decide_eq_true (by omega)]
              rw [hs]
              simp -implicitDefEqProofs only [b2_ss, bl_s, bindL_n, bindL_c, tupM_e, lstM_e, ap1_e, ap2_e, ap3_e, ap4_e, ap5_e, ap6_e, slM_s, loM_s, notM_s, bAnd_s, bOr_s, vAnd_s, vOr_s, notV_s, uTup_e, uNil_e, uCons_e, truth_b, truth_i, pInt_i, pAbs_i, pNeg_i, pAdd_i, pSub_i, pTup_l, pTup_t, pList_l, pList_t, pLen_l, pLen_t, pLen_s, pItm_l, pItm_t, pItm_s, pIx_l, pIx_t, pIxS_l, isi_ss, isi_tt, isi_bb, isi_ii, isi_bi, cEq_i, cNe_i, cEq_s, cNe_s, cLt_i, cGt_i, cLe_i, cGe_i, cIn_sg, Option.bind_some, Option.map_some, List.length_map, if_true, if_false, Bool.not_true, Bool.not_false, Bool.false_eq_true, decide_true, decide_false, e1]
              rfl
            | some abc =>
              obtain ⟨a, b, c⟩ := abc
              obtain ⟨⟨i0, j0, h0⟩, ⟨i1, ea, ma⟩, ⟨j1, eb, mb⟩, ⟨h1', ec, mc⟩⟩ := place_some hp
              rw [pIx_l] at ea eb ec
              have a1 := h2 _ mb
              have a2 := h2 _ mc
              have hc := cat2 (a := cutS b none (some n)) (b := cutS c (some m) none) (Nat.le_trans (cut_len _ _ _) (by omega)) (Nat.le_trans (cut_len _ _ _) (by omega))
              have e1 : decide ((known.length : Int) ≤ i) = false := decide_eq_false (by omega)
              have e2 : decide ((known.length : Int) ≤ j) = false := decide_eq_false (by omega)
              have e3 : decide ((known.length : Int) ≤ h) = false := decide_eq_false (by omega)
              simp -implicitDefEqProofs only [b2_ss, bl_s, bindL_n, bindL_c, tupM_e, lstM_e, ap1_e, ap2_e, ap3_e, ap4_e, ap5_e, ap6_e, slM_s, loM_s, notM_s, bAnd_s, bOr_s, vAnd_s, vOr_s, notV_s, uTup_e, uNil_e, uCons_e, truth_b, truth_i, pInt_i, pAbs_i, pNeg_i, pAdd_i, pSub_i, pTup_l, pTup_t, pList_l, pList_t, pLen_l, pLen_t, pLen_s, pItm_l, pItm_t, pItm_s, pIx_l, pIx_t, pIxS_l, isi_ss, isi_tt, isi_bb, isi_ii, isi_bi, cEq_i, cNe_i, cEq_s, cNe_s, cLt_i, cGt_i, cLe_i, cGe_i, cIn_sg, Option.bind_some, Option.map_some, List.length_map, if_true, if_false, Bool.not_true, Bool.not_false, Bool.false_eq_true, decide_true, decide_false, e1, e2, e3, ea, eb, ec, pSl_s, hc]
              rw [show (cutS b none (some n) ++ cutS c (some m) none) = catS b c m n from rfl]
              simp only [isC, hp, fitC]
              have hsym : decide (w = catS b c m n) = decide (catS b c m n = w) := by
                rw [Bool.eq_iff_iff, decide_eq_true_eq, decide_eq_true_eq]; exact eq_comm
              rw [hsym]
              generalize decide (m < k) = A
              generalize decide (n < k) = B
              generalize decide ((a.length : Int) < m) = C
              generalize decide ((c.length : Int) < m) = C'
              generalize decide ((b.length : Int) < n) = D'
              generalize decide (cutS a (some (m - k)) (some m) = cutS b (some (n - k)) (some n)) = E
              generalize decide (cutS a (some m) none = cutS b (some n) none) = F
              generalize decide (cutS c none (some m) = cutS a none (some m)) = H
              generalize decide (catS b c m n = w) = G
              cases A <;> cases B <;> cases C <;> cases C' <;> cases D' <;> cases E <;> cases F <;> cases G <;> cases H <;> rfl
        · have e1 : decide ((is.length : Int) = 5) = false := decide_eq_false (by omega)
          have hs : isC known k is = false := by
            cases hq : isC known k is with
            | false => rfl
            | true => exact absurd (isC_len hq) h4
          rw [hs]
          simp -implicitDefEqProofs only [b2_ss, bl_s, bindL_n, bindL_c, tupM_e, lstM_e, ap1_e, ap2_e, ap3_e, ap4_e, ap5_e, ap6_e, slM_s, loM_s, notM_s, bAnd_s, bOr_s, vAnd_s, vOr_s, notV_s, uTup_e, uNil_e, uCons_e, truth_b, truth_i, pInt_i, pAbs_i, pNeg_i, pAdd_i, pSub_i, pTup_l, pTup_t, pList_l, pList_t, pLen_l, pLen_t, pLen_s, pItm_l, pItm_t, pItm_s, pIx_l, pIx_t, pIxS_l, isi_ss, isi_tt, isi_bb, isi_ii, isi_bi, cEq_i, cNe_i, cEq_s, cNe_s, cLt_i, cGt_i, cLe_i, cGe_i, cIn_sg, Option.bind_some, Option.map_some, List.length_map, if_true, if_false, Bool.not_true, Bool.not_false, Bool.false_eq_true, decide_true, decide_false, e1]
          rfl
theorem h_k {d : Int} (hd : 0 ≤ d) : Sat (m__law_k (.int d)) fun r => ∃ k : Int, r = .int k ∧ 0 ≤ k ∧ k ≤ 20 := by
  unfold m__law_k
  have m12 : ∀ x : Int, pMod (.int x) (.int 12) = some (.int (x % 12)) := fun x => mod_i (by decide)
  have m21 : ∀ x : Int, pMod (.int x) (.int 21) = some (.int (x % 21)) := fun x => mod_i (by decide)
  have d12 : ∀ x : Int, pFdiv (.int x) (.int 12) = some (.int (x / 12)) := fun x => fdiv_i (by decide) (by decide)
  obtain ⟨a, b⟩ := mod_pos d (n := 12) (by decide)
  simp -implicitDefEqProofs only [b2_ss, bl_s, bindL_n, bindL_c, tupM_e, lstM_e, ap1_e, ap2_e, ap3_e, ap4_e, ap5_e, ap6_e, slM_s, loM_s, notM_s, bAnd_s, bOr_s, vAnd_s, vOr_s, notV_s, uTup_e, uNil_e, uCons_e, truth_b, truth_i, pInt_i, pAbs_i, pNeg_i, pAdd_i, pSub_i, pTup_l, pTup_t, pList_l, pList_t, pLen_l, pLen_t, pLen_s, pItm_l, pItm_t, pItm_s, pIx_l, pIx_t, pIxS_l, isi_ss, isi_tt, isi_bb, isi_ii, isi_bi, cEq_i, cNe_i, cEq_s, cNe_s, cLt_i, cGt_i, cLe_i, cGe_i, cIn_sg, Option.bind_some, Option.map_some, List.length_map, if_true, if_false, Bool.not_true, Bool.not_false, Bool.false_eq_true, decide_true, decide_false, jn_s, m12, m21, d12]
  refine sat_ite (fun _ => sat_some ⟨_, rfl, by omega, by omega⟩) fun h => ?_
  have h' : d % 12 ≠ 11 := of_decide_eq_false h
  have h3 : d % 12 = 0 ∨ d % 12 = 1 ∨ d % 12 = 2 ∨ d % 12 = 3 ∨ d % 12 = 4 ∨ d % 12 = 5 ∨ d % 12 = 6 ∨ d % 12 = 7 ∨ d % 12 = 8 ∨ d % 12 = 9 ∨ d % 12 = 10 := by omega
  rcases h3 with e | e | e | e | e | e | e | e | e | e | e <;> rw [e] <;> exact ⟨_, rfl, _, rfl, by decide, by decide⟩
/-- letters, runs, a number -/
def Seen (B : Nat) (r : PyData) : Prop := ∃ (ls : List Nat) (rs : List Str) (k : Int), r = .tuple [.list (ls.map sgn), .tuple (rs.map .str), .int k] ∧ 1 ≤ ls.length ∧ ls.length ≤ 6 ∧ (∀ c ∈ ls, 97 ≤ c ∧ c ≤ 122) ∧ rs.length ≤ 100 ∧ (∀ z ∈ rs, Wd ls B z) ∧ 0 ≤ k ∧ k ≤ 20
theorem h_seen (ns : List Int) {at0 n L : Int} (ha : 0 ≤ at0) (n0 : 0 ≤ n) (n1 : n ≤ 100) (L0 : 0 ≤ L) (L1 : L ≤ 200) : Sat (m__law_seen (.list (ns.map .int)) (.int at0) (.int n) (.int L)) (Seen L.toNat) := by
  unfold m__law_seen
  obtain ⟨c0, hc0⟩ := h_cell ns ha
  obtain ⟨c1, hc1⟩ := h_cell ns (k := at0 + 1) (by omega)
  obtain ⟨_, hd, ds, rfl, hdl, hdr⟩ := h_draws c0 (n := 3) (by decide) (by decide)
  have D : Dr ds 3 := ⟨hdl, hdr⟩
  obtain ⟨x0, ex0, p0, _⟩ := D.at (i := 0) (by decide) (by decide)
  obtain ⟨x1, ex1, p1, _⟩ := D.at (i := 1) (by decide) (by decide)
  obtain ⟨x2, ex2, p2, _⟩ := D.at (i := 2) (by decide) (by decide)
  have m6 : ∀ x : Int, pMod (.int x) (.int 6) = some (.int (x % 6)) := fun x => mod_i (by decide)
  obtain ⟨n0', hn0, hn1, hn2⟩ : ∃ n0 : Int, atI [PyData.int 2, .int 1, .int 3, .int 2, .int 3, .int 6] (x1 % 6) = some (.int n0) ∧ 1 ≤ n0 ∧ n0 ≤ 6 := by
    have h1 := mod_pos x1 (n := 6) (by decide)
    have h3 : x1 % 6 = 0 ∨ x1 % 6 = 1 ∨ x1 % 6 = 2 ∨ x1 % 6 = 3 ∨ x1 % 6 = 4 ∨ x1 % 6 = 5 := by omega
    rcases h3 with e | e | e | e | e | e <;> rw [e] <;> exact ⟨_, rfl, by decide, by decide⟩
  obtain ⟨_, hl0, ls, rfl, hll, hlr⟩ := h_letters (d := x0) (n := n0') p0 (by omega) (by omega)
  obtain ⟨_, hr, rs, rfl, hr1, hr2⟩ := h_runs c1 (ls := ls) (n := n) (L := L) (by omega) (by omega) n0 (by omega) L0 L1
  obtain ⟨_, hk, k, rfl, k0, k1⟩ := h_k p2
  simp -implicitDefEqProofs only [b2_ss, bl_s, bindL_n, bindL_c, tupM_e, lstM_e, ap1_e, ap2_e, ap3_e, ap4_e, ap5_e, ap6_e, slM_s, loM_s, notM_s, bAnd_s, bOr_s, vAnd_s, vOr_s, notV_s, uTup_e, uNil_e, uCons_e, truth_b, truth_i, pInt_i, pAbs_i, pNeg_i, pAdd_i, pSub_i, pTup_l, pTup_t, pList_l, pList_t, pLen_l, pLen_t, pLen_s, pItm_l, pItm_t, pItm_s, pIx_l, pIx_t, pIxS_l, isi_ss, isi_tt, isi_bb, isi_ii, isi_bi, cEq_i, cNe_i, cEq_s, cNe_s, cLt_i, cGt_i, cLe_i, cGe_i, cIn_sg, Option.bind_some, Option.map_some, List.length_map, if_true, if_false, Bool.not_true, Bool.not_false, Bool.false_eq_true, decide_true, decide_false, hc0, hc1, hd, ex0, ex1, ex2, m6, hn0, hl0, hr, hk]
  exact sat_some ⟨ls, rs, k, rfl, by omega, by omega, hlr, by omega, hr2, k0, k1⟩
theorem h_fit {d : PyData} {rs : List Str} (hd : pItm d = some (rs.map .str)) (hl : rs.length ≤ 1000) (most : Int) : Sat (m__law_fit d (.int most)) fun r => ∃ zs : List Str, r = .tuple (zs.map .str) ∧ zs.length ≤ rs.length ∧ ∀ z ∈ zs, z ∈ rs := by
  unfold m__law_fit
  simp -implicitDefEqProofs only [b2_ss, bl_s, bindL_n, bindL_c, tupM_e, lstM_e, ap1_e, ap2_e, ap3_e, ap4_e, ap5_e, ap6_e, slM_s, loM_s, notM_s, bAnd_s, bOr_s, vAnd_s, vOr_s, notV_s, uTup_e, uNil_e, uCons_e, truth_b, truth_i, pInt_i, pAbs_i, pNeg_i, pAdd_i, pSub_i, pTup_l, pTup_t, pList_l, pList_t, pLen_l, pLen_t, pLen_s, pItm_l, pItm_t, pItm_s, pIx_l, pIx_t, pIxS_l, isi_ss, isi_tt, isi_bb, isi_ii, isi_bi, cEq_i, cNe_i, cEq_s, cNe_s, cLt_i, cGt_i, cLe_i, cGe_i, cIn_sg, Option.bind_some, Option.map_some, List.length_map, if_true, if_false, Bool.not_true, Bool.not_false, Bool.false_eq_true, decide_true, decide_false, hd]
  refine sat_jn' (sat_forG (fun i (t : PyData × PyData) => ∃ (zs : List Str) (left : Int), t = (.list (zs.map .str), .int left) ∧ zs.length ≤ i ∧ ∀ z ∈ zs, z ∈ rs) (fun (t : PyData × PyData) => ∃ (zs : List Str) (left : Int), t = (.list (zs.map .str), .int left) ∧ zs.length ≤ rs.length ∧ ∀ z ∈ zs, z ∈ rs) _ rfl ⟨[], most, rfl, Nat.le_refl _, fun _ m => nomatch m⟩ ?_ ?_ ?_)
  · rintro i t x hx ⟨zs, left, rfl, hz, hm⟩
    rw [List.getElem?_map] at hx
    obtain ⟨w, hw, rfl⟩ := Option.map_eq_some_iff.mp hx
    have hi : i < rs.length := (List.getElem?_eq_some_iff.mp hw).1
    simp -implicitDefEqProofs only [b2_ss, bl_s, bindL_n, bindL_c, tupM_e, lstM_e, ap1_e, ap2_e, ap3_e, ap4_e, ap5_e, ap6_e, slM_s, loM_s, notM_s, bAnd_s, bOr_s, vAnd_s, vOr_s, notV_s, uTup_e, uNil_e, uCons_e, truth_b, truth_i, pInt_i, pAbs_i, pNeg_i, pAdd_i, pSub_i, pTup_l, pTup_t, pList_l, pList_t, pLen_l, pLen_t, pLen_s, pItm_l, pItm_t, pItm_s, pIx_l, pIx_t, pIxS_l, isi_ss, isi_tt, isi_bb, isi_ii, isi_bi, cEq_i, cNe_i, cEq_s, cNe_s, cLt_i, cGt_i, cLe_i, cGe_i, cIn_sg, Option.bind_some, Option.map_some, List.length_map, if_true, if_false, Bool.not_true, Bool.not_false, Bool.false_eq_true, decide_true, decide_false, app_str (zs := zs) (z := w) (by omega)]
    refine sat_ite (fun _ => sat_some ⟨_, _, rfl, by simp; omega, fun z m => ?_⟩) fun _ => sat_some ⟨_, _, rfl, by omega, hm⟩
    rcases List.mem_append.mp m with m | m
    · exact hm z m
    · rw [List.mem_singleton.mp m]; exact List.mem_of_getElem? hw
  · rintro t ⟨zs, left, rfl, hz, hm⟩
    rw [List.length_map] at hz
    exact sat_some ⟨zs, rfl, hz, hm⟩
  · rintro t ⟨zs, left, rfl, hz, hm⟩
    exact sat_some ⟨zs, rfl, hz, hm⟩
theorem h_long (cell : Int) {ls : List Nat} (h1 : 1 ≤ ls.length) (h2 : ls.length ≤ 1000) : Sat (m__law_long_runs (.int cell) (.list (ls.map sgn))) fun r => ∃ rs : List Str, r = .tuple (rs.map .str) ∧ rs.length ≤ 59 ∧ ∀ z ∈ rs, Wd ls 64 z := by
  unfold m__law_long_runs
  obtain ⟨_, hd, ds, rfl, hdl, hdr⟩ := h_draws cell (n := 70) (by decide) (by decide)
  have D : Dr ds 70 := ⟨hdl, hdr⟩
  have wd : ∀ (d l : Int), 0 ≤ d → 0 ≤ l → l ≤ 200 → ∃ w : Str, m__law_word (.int d) (.list (ls.map sgn)) (.int l) = some (.str w) ∧ Wd ls l.toNat w := fun d l hd hl0 hl => by
    obtain ⟨_, hw, w, rfl, a, b⟩ := h_word (d := d) (L := l) (ls := ls) hd h1 h2 hl0 (by omega)
    exact ⟨w, hw, by omega, b⟩
  have m4 : ∀ x : Int, pMod (.int x) (.int 4) = some (.int (x % 4)) := fun x => mod_i (by decide)
  have m8 : ∀ x : Int, pMod (.int x) (.int 8) = some (.int (x % 8)) := fun x => mod_i (by decide)
  have m3 : ∀ x : Int, pMod (.int x) (.int 3) = some (.int (x % 3)) := fun x => mod_i (by decide)
  have m9 : ∀ x : Int, pMod (.int x) (.int 9) = some (.int (x % 9)) := fun x => mod_i (by decide)
  have m15 : ∀ x : Int, pMod (.int x) (.int 15) = some (.int (x % 15)) := fun x => mod_i (by decide)
  have d8 : ∀ x : Int, pFdiv (.int x) (.int 8) = some (.int (x / 8)) := fun x => fdiv_i (by decide) (by decide)
  have e4 : ∀ x : Int, pMul (.int 4) (.int x) = some (.int (4 * x)) := fun x => mul_l (by decide) (by decide)
  have ml : ∀ x : Int, pMod (.int x) (.int (ls.length : Int)) = some (.int (x % ls.length)) := fun x => mod_i (by omega)
  obtain ⟨x0, ex0, _, _⟩ := D.at (i := 0) (by decide) (by decide)
  obtain ⟨x1, ex1, p1, _⟩ := D.at (i := 1) (by decide) (by decide)
  obtain ⟨x2, ex2, p2, _⟩ := D.at (i := 2) (by decide) (by decide)
  obtain ⟨x3, ex3, p3, _⟩ := D.at (i := 3) (by decide) (by decide)
  obtain ⟨x4, ex4, p4, _⟩ := D.at (i := 4) (by decide) (by decide)
  obtain ⟨x5, ex5, p5, _⟩ := D.at (i := 5) (by decide) (by decide)
  simp -implicitDefEqProofs only [b2_ss, bl_s, bindL_n, bindL_c, tupM_e, lstM_e, ap1_e, ap2_e, ap3_e, ap4_e, ap5_e, ap6_e, slM_s, loM_s, notM_s, bAnd_s, bOr_s, vAnd_s, vOr_s, notV_s, uTup_e, uNil_e, uCons_e, truth_b, truth_i, pInt_i, pAbs_i, pNeg_i, pAdd_i, pSub_i, pTup_l, pTup_t, pList_l, pList_t, pLen_l, pLen_t, pLen_s, pItm_l, pItm_t, pItm_s, pIx_l, pIx_t, pIxS_l, isi_ss, isi_tt, isi_bb, isi_ii, isi_bi, cEq_i, cNe_i, cEq_s, cNe_s, cLt_i, cGt_i, cLe_i, cGe_i, cIn_sg, Option.bind_some, Option.map_some, List.length_map, if_true, if_false, Bool.not_true, Bool.not_false, Bool.false_eq_true, decide_true, decide_false, hd, ex0, ex1, m4, m8, m3, d8]
  obtain ⟨a0, a1⟩ := mod_pos (x1 / 8) (n := 3) (by decide)
  refine sat_jn' (sat_rng (fun i (t : PyData) => ∃ z : Str, t = .str z ∧ Wd ls i z ∧ z.length = i) (60 - x1 / 8 % 3).toNat (rng1 (by omega) (by omega)) ⟨_, rfl, wd_nil, rfl⟩ ?_ ?_)
  · rintro i t hi ⟨z, rfl, wz, hzl⟩
    obtain ⟨y, ey, _, _⟩ := D.at (i := 10 + (i : Int)) (by omega) (by omega)
    obtain ⟨c, hc, ec⟩ := sgn_at y h1
    simp -implicitDefEqProofs only [b2_ss, bl_s, bindL_n, bindL_c, tupM_e, lstM_e, ap1_e, ap2_e, ap3_e, ap4_e, ap5_e, ap6_e, slM_s, loM_s, notM_s, bAnd_s, bOr_s, vAnd_s, vOr_s, notV_s, uTup_e, uNil_e, uCons_e, truth_b, truth_i, pInt_i, pAbs_i, pNeg_i, pAdd_i, pSub_i, pTup_l, pTup_t, pList_l, pList_t, pLen_l, pLen_t, pLen_s, pItm_l, pItm_t, pItm_s, pIx_l, pIx_t, pIxS_l, isi_ss, isi_tt, isi_bb, isi_ii, isi_bi, cEq_i, cNe_i, cEq_s, cNe_s, cLt_i, cGt_i, cLe_i, cGe_i, cIn_sg, Option.bind_some, Option.map_some, List.length_map, if_true, if_false, Bool.not_true, Bool.not_false, Bool.false_eq_true, decide_true, decide_false, ey, ml, ec, cat2 (a := z) (b := ⟨#[c]⟩) (by have := wz.len; omega) (Nat.le_trans (wd_sgn hc).len (by decide))]
    exact sat_some ⟨_, rfl, _, rfl, wz.app (wd_sgn hc), by rw [len_app, hzl]; rfl⟩
  rintro t ⟨base, rfl, wb, hbl⟩
  have wb : Wd ls 60 base := wb.le (by omega)
  refine sat_jn' ?_
  rw [ite_some]
  refine sat_ite (fun _ => sat_some ⟨[base], rfl, by simp, fun z m => by rw [List.mem_singleton.mp m]; exact wb.le (by decide)⟩) fun _ => ?_
  refine sat_jn' (sat_ite (fun _ => ?_) fun _ => ?_)
  · obtain ⟨b0, b1⟩ := mod_pos x2 (n := 9) (by decide)
    simp -implicitDefEqProofs only [b2_ss, bl_s, bindL_n, bindL_c, tupM_e, lstM_e, ap1_e, ap2_e, ap3_e, ap4_e, ap5_e, ap6_e, slM_s, loM_s, notM_s, bAnd_s, bOr_s, vAnd_s, vOr_s, notV_s, uTup_e, uNil_e, uCons_e, truth_b, truth_i, pInt_i, pAbs_i, pNeg_i, pAdd_i, pSub_i, pTup_l, pTup_t, pList_l, pList_t, pLen_l, pLen_t, pLen_s, pItm_l, pItm_t, pItm_s, pIx_l, pIx_t, pIxS_l, isi_ss, isi_tt, isi_bb, isi_ii, isi_bi, cEq_i, cNe_i, cEq_s, cNe_s, cLt_i, cGt_i, cLe_i, cGe_i, cIn_sg, Option.bind_some, Option.map_some, List.length_map, if_true, if_false, Bool.not_true, Bool.not_false, Bool.false_eq_true, decide_true, decide_false, ex2, ex3, ex4, ex5, m9, pSl_s]
    have wf := wb.cut none (some (12 + x2 % 9))
    have hfl : 0 < (cutS base none (some (12 + x2 % 9))).length := by
      rw [← len_eq, cut_to base (by omega), List.length_take, len_eq]; omega
    generalize cutS base none (some (12 + x2 % 9)) = f1 at wf hfl
    have mf : ∀ x : Int, pMod (.int x) (.int ((f1.length : Int) + 1)) = some (.int (x % ((f1.length : Int) + 1))) := fun x => mod_i (by omega)
    have mg : ∀ x : Int, pMod (.int x) (.int (f1.length : Int)) = some (.int (x % (f1.length : Int))) := fun x => mod_i (by omega)
    have w1 := wf.cut none (some (x3 % ((f1.length : Int) + 1)))
    have w2 := wf.cut (some (x4 % ((f1.length : Int) + 1))) none
    have w3 := wf.cut (some (x5 % (f1.length : Int))) none
    simp -implicitDefEqProofs only [b2_ss, bl_s, bindL_n, bindL_c, tupM_e, lstM_e, ap1_e, ap2_e, ap3_e, ap4_e, ap5_e, ap6_e, slM_s, loM_s, notM_s, bAnd_s, bOr_s, vAnd_s, vOr_s, notV_s, uTup_e, uNil_e, uCons_e, truth_b, truth_i, pInt_i, pAbs_i, pNeg_i, pAdd_i, pSub_i, pTup_l, pTup_t, pList_l, pList_t, pLen_l, pLen_t, pLen_s, pItm_l, pItm_t, pItm_s, pIx_l, pIx_t, pIxS_l, isi_ss, isi_tt, isi_bb, isi_ii, isi_bi, cEq_i, cNe_i, cEq_s, cNe_s, cLt_i, cGt_i, cLe_i, cGe_i, cIn_sg, Option.bind_some, Option.map_some, List.length_map, if_true, if_false, Bool.not_true, Bool.not_false, Bool.false_eq_true, decide_true, decide_false, mf, mg, pSl_s]
    simp -implicitDefEqProofs only [b2_ss, bl_s, bindL_n, bindL_c, tupM_e, lstM_e, ap1_e, ap2_e, ap3_e, ap4_e, ap5_e, ap6_e, slM_s, loM_s, notM_s, bAnd_s, bOr_s, vAnd_s, vOr_s, notV_s, uTup_e, uNil_e, uCons_e, truth_b, truth_i, pInt_i, pAbs_i, pNeg_i, pAdd_i, pSub_i, pTup_l, pTup_t, pList_l, pList_t, pLen_l, pLen_t, pLen_s, pItm_l, pItm_t, pItm_s, pIx_l, pIx_t, pIxS_l, isi_ss, isi_tt, isi_bb, isi_ii, isi_bi, cEq_i, cNe_i, cEq_s, cNe_s, cLt_i, cGt_i, cLe_i, cGe_i, cIn_sg, Option.bind_some, Option.map_some, List.length_map, if_true, if_false, Bool.not_true, Bool.not_false, Bool.false_eq_true, decide_true, decide_false, cat2 (Nat.le_trans w1.len (by decide)) (Nat.le_trans w2.len (by decide)), cat2 (Nat.le_trans w3.len (by decide)) (Nat.le_trans wf.len (by decide)), pSl_s]
    have c20 : ∀ {z : Str}, Wd ls 120 z → Wd ls 64 (cutS z none (some 20)) := fun {z} w => ⟨by have := cut_to_len (z := z) (v := 20) (by decide); omega, (w.cut _ _).mem⟩
    refine sat_some ⟨[f1, _, _], rfl, by simp, fun z m => ?_⟩
    simp only [List.mem_cons, List.not_mem_nil, or_false] at m
    rcases m with rfl | rfl | rfl
    · exact wf.le (by decide)
    · exact c20 (w1.app w2)
    · exact c20 (w3.app wf)
  refine sat_jn' (sat_ite (fun _ => ?_) fun _ => ?_)
  · obtain ⟨wa, ha, va⟩ := wd x2 4 p2 (by decide) (by decide)
    obtain ⟨wh, hh, vh⟩ := wd x3 3 p3 (by decide) (by decide)
    obtain ⟨c, hc, ec⟩ := sgn_at 0 h1
    have ec : atI (ls.map sgn) 0 = some (sgn c) := by rw [Int.zero_emod] at ec; exact ec
    have vw := va.app (wd_sgn hc)
    have e1 : pAdd (.str wa) (.str ⟨#[c]⟩) = some (.str (wa ++ ⟨#[c]⟩)) := cat2 (Nat.le_trans va.len (by decide)) (Nat.le_trans (wd_sgn hc).len (by decide))
    simp -implicitDefEqProofs only [b2_ss, bl_s, bindL_n, bindL_c, tupM_e, lstM_e, ap1_e, ap2_e, ap3_e, ap4_e, ap5_e, ap6_e, slM_s, loM_s, notM_s, bAnd_s, bOr_s, vAnd_s, vOr_s, notV_s, uTup_e, uNil_e, uCons_e, truth_b, truth_i, pInt_i, pAbs_i, pNeg_i, pAdd_i, pSub_i, pTup_l, pTup_t, pList_l, pList_t, pLen_l, pLen_t, pLen_s, pItm_l, pItm_t, pItm_s, pIx_l, pIx_t, pIxS_l, isi_ss, isi_tt, isi_bb, isi_ii, isi_bi, cEq_i, cNe_i, cEq_s, cNe_s, cLt_i, cGt_i, cLe_i, cGe_i, cIn_sg, Option.bind_some, Option.map_some, List.length_map, if_true, if_false, Bool.not_true, Bool.not_false, Bool.false_eq_true, decide_true, decide_false, ex2, ex3, ex4, ex5, ha, hh, ec, e1, m9, m3]
    obtain ⟨b0, b1⟩ := mod_pos x5 (n := 3) (by decide)
    obtain ⟨b2, b3⟩ := mod_pos x4 (n := 9) (by decide)
    generalize wa ++ ⟨#[c]⟩ = wd1 at vw
    have v60 := vw.rep (n := 60) 60 (by decide)
    have v3 := vw.rep (n := 1 + x5 % 3) 3 (by omega)
    have q60 : pMul (.str wd1) (.int 60) = some (.str (repS wd1 60)) := mul_s (by decide) (by decide) (by rw [← len_rep]; exact Nat.le_trans v60.len (by decide))
    have q3 : pMul (.str wd1) (.int (1 + x5 % 3)) = some (.str (repS wd1 (1 + x5 % 3))) := mul_s (by omega) (by omega) (by rw [← len_rep]; exact Nat.le_trans v3.len (by decide))
    have v38 : Wd ls 38 (cutS (repS wd1 60) none (some (38 - x4 % 9))) := ⟨by have := cut_to_len (z := repS wd1 60) (v := 38 - x4 % 9) (by omega); omega, (v60.cut _ _).mem⟩
    simp -implicitDefEqProofs only [b2_ss, bl_s, bindL_n, bindL_c, tupM_e, lstM_e, ap1_e, ap2_e, ap3_e, ap4_e, ap5_e, ap6_e, slM_s, loM_s, notM_s, bAnd_s, bOr_s, vAnd_s, vOr_s, notV_s, uTup_e, uNil_e, uCons_e, truth_b, truth_i, pInt_i, pAbs_i, pNeg_i, pAdd_i, pSub_i, pTup_l, pTup_t, pList_l, pList_t, pLen_l, pLen_t, pLen_s, pItm_l, pItm_t, pItm_s, pIx_l, pIx_t, pIxS_l, isi_ss, isi_tt, isi_bb, isi_ii, isi_bi, cEq_i, cNe_i, cEq_s, cNe_s, cLt_i, cGt_i, cLe_i, cGe_i, cIn_sg, Option.bind_some, Option.map_some, List.length_map, if_true, if_false, Bool.not_true, Bool.not_false, Bool.false_eq_true, decide_true, decide_false, q60, q3, pSl_s]
    simp -implicitDefEqProofs only [b2_ss, bl_s, bindL_n, bindL_c, tupM_e, lstM_e, ap1_e, ap2_e, ap3_e, ap4_e, ap5_e, ap6_e, slM_s, loM_s, notM_s, bAnd_s, bOr_s, vAnd_s, vOr_s, notV_s, uTup_e, uNil_e, uCons_e, truth_b, truth_i, pInt_i, pAbs_i, pNeg_i, pAdd_i, pSub_i, pTup_l, pTup_t, pList_l, pList_t, pLen_l, pLen_t, pLen_s, pItm_l, pItm_t, pItm_s, pIx_l, pIx_t, pIxS_l, isi_ss, isi_tt, isi_bb, isi_ii, isi_bi, cEq_i, cNe_i, cEq_s, cNe_s, cLt_i, cGt_i, cLe_i, cGe_i, cIn_sg, Option.bind_some, Option.map_some, List.length_map, if_true, if_false, Bool.not_true, Bool.not_false, Bool.false_eq_true, decide_true, decide_false, cat2 (Nat.le_trans vh.len (by decide)) (Nat.le_trans v38.len (by decide)), cat2 (Nat.le_trans vh.len (by decide)) (Nat.le_trans v3.len (by decide))]
    refine sat_some ⟨[_, _], rfl, by simp, fun z m => ?_⟩
    simp only [List.mem_cons, List.not_mem_nil, or_false] at m
    rcases m with rfl | rfl
    · exact (vh.app v38).le (by decide)
    · exact (vh.app v3).le (by decide)
  refine sat_jn' (sat_ite (fun _ => ?_) fun _ => ?_)
  · refine sat_jn' (sat_rng (fun i (t : PyData) => ∃ rs : List Str, t = .list (rs.map .str) ∧ rs.length = i ∧ ∀ z ∈ rs, Wd ls 64 z) 4 (rng1 (by decide) (by decide)) ⟨[], rfl, rfl, fun _ m => nomatch m⟩ ?_ ?_)
    · rintro i t hi ⟨rs, rfl, hl, hz⟩
      obtain ⟨y0, ey0, q0, _⟩ := D.at (i := 10 + 4 * (i : Int)) (by omega) (by omega)
      obtain ⟨y1, ey1, _, _⟩ := D.at (i := 11 + 4 * (i : Int)) (by omega) (by omega)
      obtain ⟨y2, ey2, q2, _⟩ := D.at (i := 12 + 4 * (i : Int)) (by omega) (by omega)
      obtain ⟨y3, ey3, _, _⟩ := D.at (i := 13 + 4 * (i : Int)) (by omega) (by omega)
      obtain ⟨wa, ha, va⟩ := wd y0 3 q0 (by decide) (by decide)
      obtain ⟨wr, hr, vr⟩ := wd y2 3 q2 (by decide) (by decide)
      obtain ⟨c, hc, ec⟩ := sgn_at y1 h1
      have vw := va.app (wd_sgn hc)
      have e1 : pAdd (.str wa) (.str ⟨#[c]⟩) = some (.str (wa ++ ⟨#[c]⟩)) := cat2 (Nat.le_trans va.len (by decide)) (Nat.le_trans (wd_sgn hc).len (by decide))
      obtain ⟨b0, b1⟩ := mod_pos y3 (n := 15) (by decide)
      simp -implicitDefEqProofs only [b2_ss, bl_s, bindL_n, bindL_c, tupM_e, lstM_e, ap1_e, ap2_e, ap3_e, ap4_e, ap5_e, ap6_e, slM_s, loM_s, notM_s, bAnd_s, bOr_s, vAnd_s, vOr_s, notV_s, uTup_e, uNil_e, uCons_e, truth_b, truth_i, pInt_i, pAbs_i, pNeg_i, pAdd_i, pSub_i, pTup_l, pTup_t, pList_l, pList_t, pLen_l, pLen_t, pLen_s, pItm_l, pItm_t, pItm_s, pIx_l, pIx_t, pIxS_l, isi_ss, isi_tt, isi_bb, isi_ii, isi_bi, cEq_i, cNe_i, cEq_s, cNe_s, cLt_i, cGt_i, cLe_i, cGe_i, cIn_sg, Option.bind_some, Option.map_some, List.length_map, if_true, if_false, Bool.not_true, Bool.not_false, Bool.false_eq_true, decide_true, decide_false, e4, ey0, ey1, ey2, ey3, ha, hr, ml, ec, e1, m15]
      generalize wa ++ ⟨#[c]⟩ = wd1 at vw
      have v20 := vw.rep (n := 20) 20 (by decide)
      have q20 : pMul (.str wd1) (.int 20) = some (.str (repS wd1 20)) := mul_s (by decide) (by decide) (by rw [← len_rep]; exact Nat.le_trans v20.len (by decide))
      have v22 : Wd ls 22 (cutS (repS wd1 20) none (some (8 + y3 % 15))) := ⟨by have := cut_to_len (z := repS wd1 20) (v := 8 + y3 % 15) (by omega); omega, (v20.cut _ _).mem⟩
      simp -implicitDefEqProofs only [b2_ss, bl_s, bindL_n, bindL_c, tupM_e, lstM_e, ap1_e, ap2_e, ap3_e, ap4_e, ap5_e, ap6_e, slM_s, loM_s, notM_s, bAnd_s, bOr_s, vAnd_s, vOr_s, notV_s, uTup_e, uNil_e, uCons_e, truth_b, truth_i, pInt_i, pAbs_i, pNeg_i, pAdd_i, pSub_i, pTup_l, pTup_t, pList_l, pList_t, pLen_l, pLen_t, pLen_s, pItm_l, pItm_t, pItm_s, pIx_l, pIx_t, pIxS_l, isi_ss, isi_tt, isi_bb, isi_ii, isi_bi, cEq_i, cNe_i, cEq_s, cNe_s, cLt_i, cGt_i, cLe_i, cGe_i, cIn_sg, Option.bind_some, Option.map_some, List.length_map, if_true, if_false, Bool.not_true, Bool.not_false, Bool.false_eq_true, decide_true, decide_false, q20, pSl_s]
      simp -implicitDefEqProofs only [b2_ss, bl_s, bindL_n, bindL_c, tupM_e, lstM_e, ap1_e, ap2_e, ap3_e, ap4_e, ap5_e, ap6_e, slM_s, loM_s, notM_s, bAnd_s, bOr_s, vAnd_s, vOr_s, notV_s, uTup_e, uNil_e, uCons_e, truth_b, truth_i, pInt_i, pAbs_i, pNeg_i, pAdd_i, pSub_i, pTup_l, pTup_t, pList_l, pList_t, pLen_l, pLen_t, pLen_s, pItm_l, pItm_t, pItm_s, pIx_l, pIx_t, pIxS_l, isi_ss, isi_tt, isi_bb, isi_ii, isi_bi, cEq_i, cNe_i, cEq_s, cNe_s, cLt_i, cGt_i, cLe_i, cGe_i, cIn_sg, Option.bind_some, Option.map_some, List.length_map, if_true, if_false, Bool.not_true, Bool.not_false, Bool.false_eq_true, decide_true, decide_false, cat2 (Nat.le_trans v22.len (by decide)) (Nat.le_trans vr.len (by decide))]
      simp -implicitDefEqProofs only [b2_ss, bl_s, bindL_n, bindL_c, tupM_e, lstM_e, ap1_e, ap2_e, ap3_e, ap4_e, ap5_e, ap6_e, slM_s, loM_s, notM_s, bAnd_s, bOr_s, vAnd_s, vOr_s, notV_s, uTup_e, uNil_e, uCons_e, truth_b, truth_i, pInt_i, pAbs_i, pNeg_i, pAdd_i, pSub_i, pTup_l, pTup_t, pList_l, pList_t, pLen_l, pLen_t, pLen_s, pItm_l, pItm_t, pItm_s, pIx_l, pIx_t, pIxS_l, isi_ss, isi_tt, isi_bb, isi_ii, isi_bi, cEq_i, cNe_i, cEq_s, cNe_s, cLt_i, cGt_i, cLe_i, cGe_i, cIn_sg, Option.bind_some, Option.map_some, List.length_map, if_true, if_false, Bool.not_true, Bool.not_false, Bool.false_eq_true, decide_true, decide_false, app_str (zs := rs) (z := cutS (repS wd1 20) none (some (8 + y3 % 15)) ++ wr) (by omega)]
      refine sat_some ⟨_, rfl, _, rfl, by simp [hl], fun w m => ?_⟩
      rcases List.mem_append.mp m with m | m
      · exact hz w m
      · rw [List.mem_singleton.mp m]; exact (v22.app vr).le (by decide)
    · rintro t ⟨rs, rfl, hl, hz⟩
      obtain ⟨_, hf, zs, rfl, hz1, hz2⟩ := h_fit (d := .list (rs.map .str)) (rs := rs) rfl (by omega) 60
      simp -implicitDefEqProofs only [b2_ss, bl_s, bindL_n, bindL_c, tupM_e, lstM_e, ap1_e, ap2_e, ap3_e, ap4_e, ap5_e, ap6_e, slM_s, loM_s, notM_s, bAnd_s, bOr_s, vAnd_s, vOr_s, notV_s, uTup_e, uNil_e, uCons_e, truth_b, truth_i, pInt_i, pAbs_i, pNeg_i, pAdd_i, pSub_i, pTup_l, pTup_t, pList_l, pList_t, pLen_l, pLen_t, pLen_s, pItm_l, pItm_t, pItm_s, pIx_l, pIx_t, pIxS_l, isi_ss, isi_tt, isi_bb, isi_ii, isi_bi, cEq_i, cNe_i, cEq_s, cNe_s, cLt_i, cGt_i, cLe_i, cGe_i, cIn_sg, Option.bind_some, Option.map_some, List.length_map, if_true, if_false, Bool.not_true, Bool.not_false, Bool.false_eq_true, decide_true, decide_false, hf]
      exact sat_some ⟨zs, rfl, by omega, fun z m => hz z (hz2 z m)⟩
  · refine sat_bind (k := some) ?_
    have hcall : ∀ m : Option PyData, bindL [m, some (.int 60)] (ap2 m__law_fit) = m.bind fun d => m__law_fit d (.int 60) := fun m => by cases m <;> rfl
    rw [hcall]
    refine sat_bind (sat_lcr (fun _ y => ∃ z : Str, y = .str z ∧ Wd ls 4 z) 59 (rng1 (by decide) (by decide)) (by decide) (fun i hi => ?_) fun ys hy1 hy2 => ?_)
    · obtain ⟨y0, ey0, q0, _⟩ := D.at (i := 10 + (i : Int)) (by omega) (by omega)
      obtain ⟨b0, b1⟩ := mod_pos x5 (n := 4) (by decide)
      obtain ⟨wa, ha, va⟩ := wd y0 (1 + x5 % 4) q0 (by omega) (by omega)
      simp -implicitDefEqProofs only [b2_ss, bl_s, bindL_n, bindL_c, tupM_e, lstM_e, ap1_e, ap2_e, ap3_e, ap4_e, ap5_e, ap6_e, slM_s, loM_s, notM_s, bAnd_s, bOr_s, vAnd_s, vOr_s, notV_s, uTup_e, uNil_e, uCons_e, truth_b, truth_i, pInt_i, pAbs_i, pNeg_i, pAdd_i, pSub_i, pTup_l, pTup_t, pList_l, pList_t, pLen_l, pLen_t, pLen_s, pItm_l, pItm_t, pItm_s, pIx_l, pIx_t, pIxS_l, isi_ss, isi_tt, isi_bb, isi_ii, isi_bi, cEq_i, cNe_i, cEq_s, cNe_s, cLt_i, cGt_i, cLe_i, cGe_i, cIn_sg, Option.bind_some, Option.map_some, List.length_map, if_true, if_false, Bool.not_true, Bool.not_false, Bool.false_eq_true, decide_true, decide_false, ey0, ex5, m4, ha]
      exact sat_some ⟨wa, rfl, va.le (by omega)⟩
    · obtain ⟨rs, rfl, hrs⟩ := strs_of (all_ix fun i y h => hy2 i y h)
      obtain ⟨_, hf, zs, rfl, hz1, hz2⟩ := h_fit (d := .list (rs.map .str)) (rs := rs) rfl (by simp at hy1; omega) 60
      exact ⟨_, hf, sat_some ⟨zs, rfl, by simp at hy1; omega, fun z m => (hrs z (hz2 z m)).le (by decide)⟩⟩
theorem at_t0 (a b c : PyData) : atI [a, b, c] 0 = some a := rfl
theorem at_t1 (a b c : PyData) : atI [a, b, c] 1 = some b := rfl
theorem at_t2 (a b c : PyData) : atI [a, b, c] 2 = some c := rfl
theorem h_seen_any (ns : List Int) {at0 n L : Int} (ha : 0 ≤ at0) (n0 : 0 ≤ n) (n1 : n ≤ 100) (L0 : 0 ≤ L) (L1 : L ≤ 64) : Sat (m__law_seen_any (.list (ns.map .int)) (.int at0) (.int n) (.int L)) (Seen 64) := by
  unfold m__law_seen_any
  obtain ⟨_, hs, ls, rs, k, rfl, l1, l2, l3, r1, r2, k0, k1⟩ := h_seen ns ha n0 n1 L0 (by omega)
  obtain ⟨c0, hc0⟩ := h_cell ns ha
  obtain ⟨c1, hc1⟩ := h_cell ns (k := at0 + 1) (by omega)
  obtain ⟨_, hd, ds, rfl, hdl, hdr⟩ := h_draws c0 (n := 4) (by decide) (by decide)
  have D : Dr ds 4 := ⟨hdl, hdr⟩
  obtain ⟨x3, ex3, p3, _⟩ := D.at (i := 3) (by decide) (by decide)
  have m8 : ∀ x : Int, pMod (.int x) (.int 8) = some (.int (x % 8)) := fun x => mod_i (by decide)
  obtain ⟨_, hl, qs, rfl, q1, q2⟩ := h_long c1 (ls := ls) l1 (by omega)
  simp -implicitDefEqProofs only [b2_ss, bl_s, bindL_n, bindL_c, tupM_e, lstM_e, ap1_e, ap2_e, ap3_e, ap4_e, ap5_e, ap6_e, slM_s, loM_s, notM_s, bAnd_s, bOr_s, vAnd_s, vOr_s, notV_s, uTup_e, uNil_e, uCons_e, truth_b, truth_i, pInt_i, pAbs_i, pNeg_i, pAdd_i, pSub_i, pTup_l, pTup_t, pList_l, pList_t, pLen_l, pLen_t, pLen_s, pItm_l, pItm_t, pItm_s, pIx_l, pIx_t, pIxS_l, isi_ss, isi_tt, isi_bb, isi_ii, isi_bi, cEq_i, cNe_i, cEq_s, cNe_s, cLt_i, cGt_i, cLe_i, cGe_i, cIn_sg, Option.bind_some, Option.map_some, List.length_map, if_true, if_false, Bool.not_true, Bool.not_false, Bool.false_eq_true, decide_true, decide_false, hs, hc0, hc1, hd, ex3, m8, at_t0, at_t2, hl]
  refine sat_jn' (sat_ite (fun _ => sat_some ⟨ls, qs, k, rfl, l1, l2, l3, by omega, q2, k0, k1⟩) fun _ => sat_some ⟨ls, rs, k, rfl, l1, l2, l3, r1, fun z m => (r2 z m).le (by omega), k0, k1⟩)
def T3 (N : Nat) (L : Int) (y : PyData) : Prop := ∃ j m n : Int, y = .tuple [.int j, .int m, .int n] ∧ (0 ≤ j ∧ j < N) ∧ m ≤ L
theorem ite_and (c d : Bool) : (if c = true then d else false) = (c && d) := by cases c <;> rfl
theorem t3_0 (a b c : PyData) : atI [a, b, c] 0 = some a := rfl
theorem t3_1 (a b c : PyData) : atI [a, b, c] 1 = some b := rfl
theorem t3_2 (a b c : PyData) : atI [a, b, c] 2 = some c := rfl
theorem h_drawn_line {known : List Str} {k : Int} {es : List Int} {ls : List Nat} (hn1 : 1 ≤ known.length) (hn2 : known.length ≤ 30) (hw : ∀ z ∈ known, Wd ls 400 z) (hk : 0 ≤ k) (hk2 : k ≤ 1000) (hd : Dr es 3) :
    Sat (m__law_drawn_line (.list (known.map .str)) (.int k) (.list (es.map .int))) fun r => r = .none ∨ ∃ w i j h m n, r = enc (w, [i, j, h, m, n]) ∧ Wd ls 800 w ∧ (0 ≤ j ∧ j < known.length) ∧ (0 ≤ h ∧ h < known.length) := by
  unfold m__law_drawn_line
  obtain ⟨d0, e0, _, _⟩ := hd.at (i := 0) (by decide) (by decide)
  obtain ⟨d1, e1, _, _⟩ := hd.at (i := 1) (by decide) (by decide)
  obtain ⟨d2, e2, _, _⟩ := hd.at (i := 2) (by decide) (by decide)
  have mk : ∀ x : Int, pMod (.int x) (.int (known.length : Int)) = some (.int (x % known.length)) := fun x => mod_i (by omega)
  have m8 : ∀ x : Int, pMod (.int x) (.int 8) = some (.int (x % 8)) := fun x => mod_i (by decide)
  have f8 : ∀ x : Int, pFdiv (.int x) (.int 8) = some (.int (x / 8)) := fun x => fdiv_i (by decide) (by decide)
  obtain ⟨a0, a1⟩ := mod_pos d0 (n := known.length) (by omega)
  have ef : atI (known.map PyData.str) (d0 % known.length) = some (.str (known[(d0 % (known.length : Int)).toNat]'(by omega))) := at_map a0 a1
  have mf : (known[(d0 % (known.length : Int)).toNat]'(by omega)) ∈ known := List.getElem_mem _
  have ei : known[(d0 % (known.length : Int)).toNat]? = some (known[(d0 % (known.length : Int)).toNat]'(by omega)) := List.getElem?_eq_getElem _
  generalize (known[(d0 % (known.length : Int)).toNat]'(by omega)) = first at ef mf ei
  have hfl := (hw _ mf).len
  have atk : ∀ j : Int, 0 ≤ j → j < known.length → ∃ z ∈ known, atI (known.map PyData.str) j = some (.str z) ∧ known[j.toNat]? = some z := fun j h0 h1 => ⟨_, List.getElem_mem _, at_map h0 h1, List.getElem?_eq_getElem (by omega)⟩
  simp -implicitDefEqProofs only [b2_ss, bl_s, bindL_n, bindL_c, tupM_e, lstM_e, ap1_e, ap2_e, ap3_e, ap4_e, ap5_e, ap6_e, slM_s, loM_s, notM_s, bAnd_s, bOr_s, vAnd_s, vOr_s, notV_s, uTup_e, uNil_e, uCons_e, truth_b, truth_i, pInt_i, pAbs_i, pNeg_i, pAdd_i, pSub_i, pTup_l, pTup_t, pList_l, pList_t, pLen_l, pLen_t, pLen_s, pItm_l, pItm_t, pItm_s, pIx_l, pIx_t, pIxS_l, isi_ss, isi_tt, isi_bb, isi_ii, isi_bi, cEq_i, cNe_i, cEq_s, cNe_s, cLt_i, cGt_i, cLe_i, cGe_i, cIn_sg, Option.bind_some, Option.map_some, List.length_map, if_true, if_false, Bool.not_true, Bool.not_false, Bool.false_eq_true, decide_true, decide_false, e0, e1, e2, mk, m8, f8, ef]
  refine sat_jn' (sat_rng (fun i (t : PyData) => ∃ ys : List PyData, t = .list ys ∧ ys.length ≤ i * 401 ∧ ∀ y ∈ ys, T3 known.length first.length y) known.length (rng1n (by omega)) ⟨[], rfl, by simp, (fun _ m => nomatch m)⟩ ?_ ?_)
  · rintro i t hi ⟨ys, rfl, hyl, hym⟩
    obtain ⟨wj, mj, ej, _⟩ := atk (i : Int) (by omega) (by omega)
    have hjl := (hw _ mj).len
    have hr : pRng2 (.int k) (.int ((wj.length : Int) + 1)) = some (rngI k ((wj.length : Int) + 1 - k).toNat) := rng2 (by omega) (by omega) (by omega) (by omega)
    simp -implicitDefEqProofs only [b2_ss, bl_s, bindL_n, bindL_c, tupM_e, lstM_e, ap1_e, ap2_e, ap3_e, ap4_e, ap5_e, ap6_e, slM_s, loM_s, notM_s, bAnd_s, bOr_s, vAnd_s, vOr_s, notV_s, uTup_e, uNil_e, uCons_e, truth_b, truth_i, pInt_i, pAbs_i, pNeg_i, pAdd_i, pSub_i, pTup_l, pTup_t, pList_l, pList_t, pLen_l, pLen_t, pLen_s, pItm_l, pItm_t, pItm_s, pIx_l, pIx_t, pIxS_l, isi_ss, isi_tt, isi_bb, isi_ii, isi_bi, cEq_i, cNe_i, cEq_s, cNe_s, cLt_i, cGt_i, cLe_i, cGe_i, cIn_sg, Option.bind_some, Option.map_some, List.length_map, if_true, if_false, Bool.not_true, Bool.not_false, Bool.false_eq_true, decide_true, decide_false, ej, hr]
    refine sat_jn' (sat_for (fun p (t : PyData) => ∃ zs : List PyData, t = .list zs ∧ zs.length ≤ i * 401 + p ∧ ∀ y ∈ zs, T3 known.length first.length y) _ rfl ⟨ys, rfl, by omega, hym⟩ ?_ ?_)
    · rintro p t x hx ⟨zs, rfl, hzl, hzm⟩
      have hp : p < ((wj.length : Int) + 1 - k).toNat := by have := (List.getElem?_eq_some_iff.mp hx).1; rwa [rngI_len] at this
      obtain ⟨n, rfl, n0, n1⟩ := rngI_mem (List.mem_of_getElem? hx)
      have happ : pApp (.list zs) (.tuple [.int (i : Int), .int ((first.length : Int) - wj.length + n), .int n]) = some (.list (zs ++ [.tuple [.int (i : Int), .int ((first.length : Int) - wj.length + n), .int n]])) := by
        show (if _ then _ else _) = _
        rw [if_pos (by omega)]
      simp -implicitDefEqProofs only [b2_ss, bl_s, bindL_n, bindL_c, tupM_e, lstM_e, ap1_e, ap2_e, ap3_e, ap4_e, ap5_e, ap6_e, slM_s, loM_s, notM_s, bAnd_s, bOr_s, vAnd_s, vOr_s, notV_s, uTup_e, uNil_e, uCons_e, truth_b, truth_i, pInt_i, pAbs_i, pNeg_i, pAdd_i, pSub_i, pTup_l, pTup_t, pList_l, pList_t, pLen_l, pLen_t, pLen_s, pItm_l, pItm_t, pItm_s, pIx_l, pIx_t, pIxS_l, isi_ss, isi_tt, isi_bb, isi_ii, isi_bi, cEq_i, cNe_i, cEq_s, cNe_s, cLt_i, cGt_i, cLe_i, cGe_i, cIn_sg, Option.bind_some, Option.map_some, List.length_map, if_true, if_false, Bool.not_true, Bool.not_false, Bool.false_eq_true, decide_true, decide_false, ej, pSl_s, ite_some, happ]
      refine sat_ite (fun _ => ?_) fun _ => sat_some ⟨_, rfl, zs, rfl, by omega, hzm⟩
      refine sat_some ⟨_, rfl, _, rfl, by simp; omega, fun y m => ?_⟩
      rcases List.mem_append.mp m with m | m
      · exact hzm y m
      · rw [List.mem_singleton.mp m]; exact ⟨_, _, _, rfl, ⟨by omega, by omega⟩, by omega⟩
    · rintro t ⟨zs, rfl, hzl, hzm⟩
      rw [rngI_len] at hzl
      exact sat_some ⟨_, rfl, zs, rfl, by omega, hzm⟩
  · rintro t ⟨ys, rfl, hyl, hym⟩
    simp -implicitDefEqProofs only [b2_ss, bl_s, bindL_n, bindL_c, tupM_e, lstM_e, ap1_e, ap2_e, ap3_e, ap4_e, ap5_e, ap6_e, slM_s, loM_s, notM_s, bAnd_s, bOr_s, vAnd_s, vOr_s, notV_s, uTup_e, uNil_e, uCons_e, truth_b, truth_i, pInt_i, pAbs_i, pNeg_i, pAdd_i, pSub_i, pTup_l, pTup_t, pList_l, pList_t, pLen_l, pLen_t, pLen_s, pItm_l, pItm_t, pItm_s, pIx_l, pIx_t, pIxS_l, isi_ss, isi_tt, isi_bb, isi_ii, isi_bi, cEq_i, cNe_i, cEq_s, cNe_s, cLt_i, cGt_i, cLe_i, cGe_i, cIn_sg, Option.bind_some, Option.map_some, List.length_map, if_true, if_false, Bool.not_true, Bool.not_false, Bool.false_eq_true, decide_true, decide_false]
    refine sat_bind (sat_lcf (T3 known.length first.length) ys rfl (by omega) (fun x hx => ?_) fun us h1 h2 => ?_)
    · obtain ⟨j, m, n, rfl, hj, hm⟩ := hym x hx
      obtain ⟨z, mz, ez, _⟩ := atk j hj.1 hj.2
      rw [Option.bind_some]
      refine sat_lcT ?_
      simp -implicitDefEqProofs only [b2_ss, bl_s, bindL_n, bindL_c, tupM_e, lstM_e, ap1_e, ap2_e, ap3_e, ap4_e, ap5_e, ap6_e, slM_s, loM_s, notM_s, bAnd_s, bOr_s, vAnd_s, vOr_s, notV_s, uTup_e, uNil_e, uCons_e, truth_b, truth_i, pInt_i, pAbs_i, pNeg_i, pAdd_i, pSub_i, pTup_l, pTup_t, pList_l, pList_t, pLen_l, pLen_t, pLen_s, pItm_l, pItm_t, pItm_s, pIx_l, pIx_t, pIxS_l, isi_ss, isi_tt, isi_bb, isi_ii, isi_bi, cEq_i, cNe_i, cEq_s, cNe_s, cLt_i, cGt_i, cLe_i, cGe_i, cIn_sg, Option.bind_some, Option.map_some, List.length_map, if_true, if_false, Bool.not_true, Bool.not_false, Bool.false_eq_true, decide_true, decide_false, t3_0, t3_1, t3_2, ez, pSl_s]
      exact ⟨_, rfl, fun _ => sat_some ⟨j, m, n, rfl, hj, hm⟩⟩
    · refine sat_jn (fun (t : PyData) => ∃ vs : List PyData, t = .list vs ∧ vs.length ≤ ys.length ∧ ∀ y ∈ vs, T3 known.length first.length y) ?_ fun k' hk' => ?_
      · rintro t ⟨vs, rfl, hvl, hvm⟩
        simp -implicitDefEqProofs only [b2_ss, bl_s, bindL_n, bindL_c, tupM_e, lstM_e, ap1_e, ap2_e, ap3_e, ap4_e, ap5_e, ap6_e, slM_s, loM_s, notM_s, bAnd_s, bOr_s, vAnd_s, vOr_s, notV_s, uTup_e, uNil_e, uCons_e, truth_b, truth_i, pInt_i, pAbs_i, pNeg_i, pAdd_i, pSub_i, pTup_l, pTup_t, pList_l, pList_t, pLen_l, pLen_t, pLen_s, pItm_l, pItm_t, pItm_s, pIx_l, pIx_t, pIxS_l, isi_ss, isi_tt, isi_bb, isi_ii, isi_bi, cEq_i, cNe_i, cEq_s, cNe_s, cLt_i, cGt_i, cLe_i, cGe_i, cIn_sg, Option.bind_some, Option.map_some, List.length_map, if_true, if_false, Bool.not_true, Bool.not_false, Bool.false_eq_true, decide_true, decide_false]
        refine sat_jn' (sat_ite (fun _ => sat_some (.inl rfl)) fun hne => ?_)
        have hpp : 1 ≤ vs.length := by have := of_decide_eq_false hne; omega
        have mp : ∀ x : Int, pMod (.int x) (.int (vs.length : Int)) = some (.int (x % vs.length)) := fun x => mod_i (by omega)
        obtain ⟨c0, c1⟩ := mod_pos d1 (n := vs.length) (by omega)
        have ep : atI vs (d1 % vs.length) = some (vs[(d1 % (vs.length : Int)).toNat]'(by omega)) := at_int c0 c1
        obtain ⟨j, m, n, ec, hj, hm⟩ := hvm _ (List.getElem_mem (show (d1 % (vs.length : Int)).toNat < vs.length by omega))
        rw [ec] at ep
        obtain ⟨zj, mj, ej, _⟩ := atk j hj.1 hj.2
        have hrn : pRng1 (.int (known.length : Int)) = some (rngI 0 known.length) := rng1n (by omega)
        simp -implicitDefEqProofs only [b2_ss, bl_s, bindL_n, bindL_c, tupM_e, lstM_e, ap1_e, ap2_e, ap3_e, ap4_e, ap5_e, ap6_e, slM_s, loM_s, notM_s, bAnd_s, bOr_s, vAnd_s, vOr_s, notV_s, uTup_e, uNil_e, uCons_e, truth_b, truth_i, pInt_i, pAbs_i, pNeg_i, pAdd_i, pSub_i, pTup_l, pTup_t, pList_l, pList_t, pLen_l, pLen_t, pLen_s, pItm_l, pItm_t, pItm_s, pIx_l, pIx_t, pIxS_l, isi_ss, isi_tt, isi_bb, isi_ii, isi_bi, cEq_i, cNe_i, cEq_s, cNe_s, cLt_i, cGt_i, cLe_i, cGe_i, cIn_sg, Option.bind_some, Option.map_some, List.length_map, if_true, if_false, Bool.not_true, Bool.not_false, Bool.false_eq_true, decide_true, decide_false, mp, ep, t3_0, t3_1, t3_2, ej, hrn]
        rw [lc_fil (fun x => match x with | .int h => (match known[h.toNat]? with | some z => decide (m ≤ (z.length : Int)) && decide (cutS z none (some m) = cutS first none (some m)) | none => false) | _ => false) (fun x => x) (by rw [rngI_len]; omega) (fun x hx => by
          obtain ⟨h, rfl, h3, h4⟩ := rngI_mem hx
          obtain ⟨z, mz, ez, ez2⟩ := atk h (by omega) (by omega)
          rw [Option.bind_some]
          refine lcT_if ?_ rfl
          simp -implicitDefEqProofs only [b2_ss, bl_s, bindL_n, bindL_c, tupM_e, lstM_e, ap1_e, ap2_e, ap3_e, ap4_e, ap5_e, ap6_e, slM_s, loM_s, notM_s, bAnd_s, bOr_s, vAnd_s, vOr_s, notV_s, uTup_e, uNil_e, uCons_e, truth_b, truth_i, pInt_i, pAbs_i, pNeg_i, pAdd_i, pSub_i, pTup_l, pTup_t, pList_l, pList_t, pLen_l, pLen_t, pLen_s, pItm_l, pItm_t, pItm_s, pIx_l, pIx_t, pIxS_l, isi_ss, isi_tt, isi_bb, isi_ii, isi_bi, cEq_i, cNe_i, cEq_s, cNe_s, cLt_i, cGt_i, cLe_i, cGe_i, cIn_sg, Option.bind_some, Option.map_some, List.length_map, if_true, if_false, Bool.not_true, Bool.not_false, Bool.false_eq_true, decide_true, decide_false, ez, pSl_s, ite_some, ite_and]
          simp only [ez2]), Option.bind_some, List.map_id']
        generalize hfs : (rngI 0 known.length).filter _ = fs
        have hin : PyData.int (d0 % known.length) ∈ fs := by
          rw [← hfs]
          refine List.mem_filter.mpr ⟨rngI_in a0 (by omega), ?_⟩
          simp only [ei, Bool.and_eq_true, decide_eq_true_eq]
          exact ⟨hm, trivial⟩
        have hfm : ∀ x ∈ fs, ∃ h : Int, x = .int h ∧ 0 ≤ h ∧ h < known.length := fun x hx => by
          rw [← hfs] at hx
          obtain ⟨h, rfl, h3, h4⟩ := rngI_mem (List.mem_filter.mp hx).1
          exact ⟨h, rfl, by omega, by omega⟩
        have hfp : 1 ≤ fs.length := List.length_pos_of_mem hin
        have mq : ∀ x : Int, pMod (.int x) (.int (fs.length : Int)) = some (.int (x % fs.length)) := fun x => mod_i (by omega)
        obtain ⟨g0, g1⟩ := mod_pos (d2 / 8) (n := fs.length) (by omega)
        have eq : atI fs (d2 / 8 % fs.length) = some (fs[(d2 / 8 % (fs.length : Int)).toNat]'(by omega)) := at_int g0 g1
        obtain ⟨h, eh, hh⟩ := hfm _ (List.getElem_mem (show (d2 / 8 % (fs.length : Int)).toNat < fs.length by omega))
        rw [eh] at eq
        obtain ⟨zh, mh, ezh, _⟩ := atk h hh.1 hh.2
        have wj := hw _ mj
        have wh := hw _ mh
        have hcat := cat2 (a := cutS zj none (some n)) (b := cutS zh (some m) none) (Nat.le_trans (wj.cut _ _).len (by omega)) (Nat.le_trans (wh.cut _ _).len (by omega))
        simp -implicitDefEqProofs only [b2_ss, bl_s, bindL_n, bindL_c, tupM_e, lstM_e, ap1_e, ap2_e, ap3_e, ap4_e, ap5_e, ap6_e, slM_s, loM_s, notM_s, bAnd_s, bOr_s, vAnd_s, vOr_s, notV_s, uTup_e, uNil_e, uCons_e, truth_b, truth_i, pInt_i, pAbs_i, pNeg_i, pAdd_i, pSub_i, pTup_l, pTup_t, pList_l, pList_t, pLen_l, pLen_t, pLen_s, pItm_l, pItm_t, pItm_s, pIx_l, pIx_t, pIxS_l, isi_ss, isi_tt, isi_bb, isi_ii, isi_bi, cEq_i, cNe_i, cEq_s, cNe_s, cLt_i, cGt_i, cLe_i, cGe_i, cIn_sg, Option.bind_some, Option.map_some, List.length_map, if_true, if_false, Bool.not_true, Bool.not_false, Bool.false_eq_true, decide_true, decide_false, mq, eq, ezh, pSl_s, hcat]
        exact sat_some (.inr ⟨_, d0 % known.length, j, h, m, n, rfl, (wj.cut _ _).app (wh.cut _ _), hj, hh⟩)
      · simp -implicitDefEqProofs only [b2_ss, bl_s, bindL_n, bindL_c, tupM_e, lstM_e, ap1_e, ap2_e, ap3_e, ap4_e, ap5_e, ap6_e, slM_s, loM_s, notM_s, bAnd_s, bOr_s, vAnd_s, vOr_s, notV_s, uTup_e, uNil_e, uCons_e, truth_b, truth_i, pInt_i, pAbs_i, pNeg_i, pAdd_i, pSub_i, pTup_l, pTup_t, pList_l, pList_t, pLen_l, pLen_t, pLen_s, pItm_l, pItm_t, pItm_s, pIx_l, pIx_t, pIxS_l, isi_ss, isi_tt, isi_bb, isi_ii, isi_bi, cEq_i, cNe_i, cEq_s, cNe_s, cLt_i, cGt_i, cLe_i, cGe_i, cIn_sg, Option.bind_some, Option.map_some, List.length_map, if_true, if_false, Bool.not_true, Bool.not_false, Bool.false_eq_true, decide_true, decide_false, ite_some]
        exact sat_ite (fun _ => hk' _ ⟨us, rfl, by omega, h1⟩) fun _ => hk' _ ⟨ys, rfl, by omega, hym⟩
theorem h_own_lines {rs : List Str} {k most : Int} {es : List Int} {ls : List Nat} (hr : rs.length ≤ 12) (hw : ∀ z ∈ rs, Wd ls 400 z) (hk : 0 ≤ k) (hk2 : k ≤ 1000) (hd : Dr es 24) (hm0 : 0 ≤ most) (hm : most ≤ 400) :
    Sat (m__law_own_lines (.tuple (rs.map .str)) (.int k) (.list (es.map .int)) (.int 8) (.int most)) fun r => ∃ lns, r = .list (lns.map enc) ∧ lns.length ≤ 20 ∧ Lns ls 400 lns ∧ Gd lns := by
  unfold m__law_own_lines
  have e3 : ∀ x : Int, pMul (.int 3) (.int x) = some (.int (3 * x)) := fun x => mul_l (by decide) (by decide)
  simp -implicitDefEqProofs only [b2_ss, bl_s, bindL_n, bindL_c, tupM_e, lstM_e, ap1_e, ap2_e, ap3_e, ap4_e, ap5_e, ap6_e, slM_s, loM_s, notM_s, bAnd_s, bOr_s, vAnd_s, vOr_s, notV_s, uTup_e, uNil_e, uCons_e, truth_b, truth_i, pInt_i, pAbs_i, pNeg_i, pAdd_i, pSub_i, pTup_l, pTup_t, pList_l, pList_t, pLen_l, pLen_t, pLen_s, pItm_l, pItm_t, pItm_s, pIx_l, pIx_t, pIxS_l, isi_ss, isi_tt, isi_bb, isi_ii, isi_bi, cEq_i, cNe_i, cEq_s, cNe_s, cLt_i, cGt_i, cLe_i, cGe_i, cIn_sg, Option.bind_some, Option.map_some, List.length_map, if_true, if_false, Bool.not_true, Bool.not_false, Bool.false_eq_true, decide_true, decide_false]
  rw [lc_all (fun d => match d with | .str z => enc (z, []) | _ => d) (by simp; omega) (fun x hx => by
    obtain ⟨z, _, rfl⟩ := List.mem_map.mp hx; rfl)]
  rw [Option.bind_some]
  have em : (rs.map PyData.str).map (fun d => match d with | .str z => enc (z, []) | _ => d) = (rs.map fun z => (z, ([] : List Int))).map enc := by rw [List.map_map, List.map_map]; rfl
  rw [em]
  refine sat_jn' (sat_rng (fun i (t : PyData) => ∃ (lns : List (Str × List Int)), t = .list (lns.map enc) ∧ lns.length ≤ 12 + i ∧ Lns ls 400 lns ∧ Gd lns) 8 (rng1 (n := 8) (by decide) (by decide)) ⟨_, rfl, by simpa using hr, fun l hl => ?_, fun p l hp => ?_⟩ ?_ ?_)
  · obtain ⟨z, hz, rfl⟩ := List.mem_map.mp hl
    exact ⟨hw z hz, by simp⟩
  · obtain ⟨z, hz, rfl⟩ := List.mem_map.mp (List.mem_of_getElem? hp)
    exact .inl rfl
  · rintro i t hi ⟨lns, rfl, h1, h3, hg⟩
    simp -implicitDefEqProofs only [b2_ss, bl_s, bindL_n, bindL_c, tupM_e, lstM_e, ap1_e, ap2_e, ap3_e, ap4_e, ap5_e, ap6_e, slM_s, loM_s, notM_s, bAnd_s, bOr_s, vAnd_s, vOr_s, notV_s, uTup_e, uNil_e, uCons_e, truth_b, truth_i, pInt_i, pAbs_i, pNeg_i, pAdd_i, pSub_i, pTup_l, pTup_t, pList_l, pList_t, pLen_l, pLen_t, pLen_s, pItm_l, pItm_t, pItm_s, pIx_l, pIx_t, pIxS_l, isi_ss, isi_tt, isi_bb, isi_ii, isi_bi, cEq_i, cNe_i, cEq_s, cNe_s, cLt_i, cGt_i, cLe_i, cGe_i, cIn_sg, Option.bind_some, Option.map_some, List.length_map, if_true, if_false, Bool.not_true, Bool.not_false, Bool.false_eq_true, decide_true, decide_false]
    refine sat_ite (fun hpos => ?_) fun _ => sat_some ⟨_, rfl, lns, rfl, by omega, h3, hg⟩
    have hpos : 1 ≤ lns.length := by have := of_decide_eq_true hpos; omega
    obtain ⟨fs, hfs, hfd⟩ := hd.cut (lo := 3 * (i : Int)) (hi := 3 * (i : Int) + 3) (by omega) (by omega) (by omega)
    have hfd : Dr fs 3 := by rw [show (3 * (i : Int) + 3 - 3 * (i : Int)).toNat = 3 by omega] at hfd; exact hfd
    have hlc : lcM (some (lns.map enc)) some (fun _ => some true) (fun z8 => pIx z8 (.int 0)) = some (.list ((lns.map fun l => l.1).map .str)) := by
      rw [lc_all (fun d => match d with | .tuple (w :: _) => w | _ => d) (by simp; omega) (fun x hx => by
        obtain ⟨l, _, rfl⟩ := List.mem_map.mp hx; rfl), List.map_map, List.map_map]
      rfl
    obtain ⟨r, hs, hr2⟩ := h_drawn_line (known := lns.map fun l => l.1) (k := k) (ls := ls) (by simpa using hpos) (by simp; omega) (fun z m => by
      obtain ⟨l, hl, rfl⟩ := List.mem_map.mp m
      exact (h3 l hl).1) hk hk2 hfd
    simp -implicitDefEqProofs only [b2_ss, bl_s, bindL_n, bindL_c, tupM_e, lstM_e, ap1_e, ap2_e, ap3_e, ap4_e, ap5_e, ap6_e, slM_s, loM_s, notM_s, bAnd_s, bOr_s, vAnd_s, vOr_s, notV_s, uTup_e, uNil_e, uCons_e, truth_b, truth_i, pInt_i, pAbs_i, pNeg_i, pAdd_i, pSub_i, pTup_l, pTup_t, pList_l, pList_t, pLen_l, pLen_t, pLen_s, pItm_l, pItm_t, pItm_s, pIx_l, pIx_t, pIxS_l, isi_ss, isi_tt, isi_bb, isi_ii, isi_bi, cEq_i, cNe_i, cEq_s, cNe_s, cLt_i, cGt_i, cLe_i, cGe_i, cIn_sg, Option.bind_some, Option.map_some, List.length_map, if_true, if_false, Bool.not_true, Bool.not_false, Bool.false_eq_true, decide_true, decide_false, e3, pSl_l, hfs, hlc, hs]
    have hfl : flat r = some r := by
      unfold flat
      rcases hr2 with rfl | ⟨w, _, _, _, _, _, rfl, _⟩
      · rfl
      · rw [if_pos (noL_enc _)]
    rw [hfl, Option.bind_some]
    rcases hr2 with rfl | ⟨w, i', j, h, m, n, rfl, ww, hj, hh⟩
    · have e0 : cNotN PyData.none .none = some false := rfl
      simp -implicitDefEqProofs only [b2_ss, bl_s, bindL_n, bindL_c, tupM_e, lstM_e, ap1_e, ap2_e, ap3_e, ap4_e, ap5_e, ap6_e, slM_s, loM_s, notM_s, bAnd_s, bOr_s, vAnd_s, vOr_s, notV_s, uTup_e, uNil_e, uCons_e, truth_b, truth_i, pInt_i, pAbs_i, pNeg_i, pAdd_i, pSub_i, pTup_l, pTup_t, pList_l, pList_t, pLen_l, pLen_t, pLen_s, pItm_l, pItm_t, pItm_s, pIx_l, pIx_t, pIxS_l, isi_ss, isi_tt, isi_bb, isi_ii, isi_bi, cEq_i, cNe_i, cEq_s, cNe_s, cLt_i, cGt_i, cLe_i, cGe_i, cIn_sg, Option.bind_some, Option.map_some, List.length_map, if_true, if_false, Bool.not_true, Bool.not_false, Bool.false_eq_true, decide_true, decide_false, e0]
      exact sat_ite (fun h => nomatch h) fun _ => sat_some ⟨_, rfl, lns, rfl, by omega, h3, hg⟩
    · have e0 : cNotN (enc (w, [i', j, h, m, n])) .none = some true := rfl
      have e1 : pIx (enc (w, [i', j, h, m, n])) (.int 0) = some (.str w) := rfl
      have e2 := app_enc (lns := lns) (l := (w, [i', j, h, m, n])) (by omega)
      simp -implicitDefEqProofs only [b2_ss, bl_s, bindL_n, bindL_c, tupM_e, lstM_e, ap1_e, ap2_e, ap3_e, ap4_e, ap5_e, ap6_e, slM_s, loM_s, notM_s, bAnd_s, bOr_s, vAnd_s, vOr_s, notV_s, uTup_e, uNil_e, uCons_e, truth_b, truth_i, pInt_i, pAbs_i, pNeg_i, pAdd_i, pSub_i, pTup_l, pTup_t, pList_l, pList_t, pLen_l, pLen_t, pLen_s, pItm_l, pItm_t, pItm_s, pIx_l, pIx_t, pIxS_l, isi_ss, isi_tt, isi_bb, isi_ii, isi_bi, cEq_i, cNe_i, cEq_s, cNe_s, cLt_i, cGt_i, cLe_i, cGe_i, cIn_sg, Option.bind_some, Option.map_some, List.length_map, if_true, if_false, Bool.not_true, Bool.not_false, Bool.false_eq_true, decide_true, decide_false, e0, e1, e2]
      rw [List.length_map] at hj hh
      refine sat_ite (fun hle => ?_) fun _ => sat_some ⟨_, rfl, lns, rfl, by omega, h3, hg⟩
      have hle : (w.length : Int) ≤ most := of_decide_eq_true hle
      have w4 : Wd ls 400 w := ⟨by omega, ww.mem⟩
      refine sat_some ⟨_, rfl, lns ++ [(w, [i', j, h, m, n])], rfl, by simp; omega, fun l hl => ?_, fun p l hp => ?_⟩
      · rcases List.mem_append.mp hl with hl | hl
        · exact h3 l hl
        · rw [List.mem_singleton.mp hl]; exact ⟨w4, by simp⟩
      · by_cases hlt : p < lns.length
        · rw [List.getElem?_append_left hlt] at hp
          exact hg p l hp
        · rw [List.getElem?_append_right (by omega)] at hp
          have hpe : p - lns.length = 0 := by
            have := (List.getElem?_eq_some_iff.mp hp).1
            simp at this; omega
          rw [hpe] at hp
          cases hp
          exact .inr ⟨i', j, h, m, n, rfl, ⟨hj.1, by omega⟩, hh.1, by omega⟩
  · rintro t ⟨lns, rfl, h1, h3, hg⟩
    exact sat_some ⟨lns, rfl, by omega, h3, hg⟩
theorem ten_at (a b c d e f g h i j : Int) (z : Int) : ∃ v : Int, atI [PyData.int a, .int b, .int c, .int d, .int e, .int f, .int g, .int h, .int i, .int j] (z % 10) = some (.int v) := by
  have h1 := mod_pos z (n := 10) (by decide)
  have h3 : z % 10 = 0 ∨ z % 10 = 1 ∨ z % 10 = 2 ∨ z % 10 = 3 ∨ z % 10 = 4 ∨ z % 10 = 5 ∨ z % 10 = 6 ∨ z % 10 = 7 ∨ z % 10 = 8 ∨ z % 10 = 9 := by omega
  rcases h3 with q | q | q | q | q | q | q | q | q | q <;> rw [q] <;> exact ⟨_, rfl⟩
theorem h_spoilt_number {lns : List (Str × List Int)} {es : List Int} {k i : Int} {w : Str} {is : List Int} (hd : Dr es 2) (el : atI (lns.map enc) i = some (enc (w, is))) (h5 : is.length = 5) :
    Sat (m__law_spoilt_number (.list (lns.map enc)) (.int i) (.int k) (.list (es.map .int))) fun r => ∃ is : List Int, r = enc (w, is) ∧ is.length ≤ 50 := by
  unfold m__law_spoilt_number
  obtain ⟨d0, e0, _, _⟩ := hd.at (i := 0) (by decide) (by decide)
  obtain ⟨d1, e1, _, _⟩ := hd.at (i := 1) (by decide) (by decide)
  have m5 : ∀ x : Int, pMod (.int x) (.int 5) = some (.int (x % 5)) := fun x => mod_i (by decide)
  have m10 : ∀ x : Int, pMod (.int x) (.int 10) = some (.int (x % 10)) := fun x => mod_i (by decide)
  obtain ⟨p0, p1⟩ := mod_pos d0 (n := 5) (by decide)
  have ex : atI (is.map PyData.int) (d0 % 5) = some (.int (is[(d0 % 5).toNat]'(by omega))) := at_map p0 (by omega)
  generalize (is[(d0 % 5).toNat]'(by omega)) = x at ex
  have p20 : pPow (.int 10) (.int 20) = some (.int (10 ^ 20)) := by rfl
  simp -implicitDefEqProofs only [b2_ss, bl_s, bindL_n, bindL_c, tupM_e, lstM_e, ap1_e, ap2_e, ap3_e, ap4_e, ap5_e, ap6_e, slM_s, loM_s, notM_s, bAnd_s, bOr_s, vAnd_s, vOr_s, notV_s, uTup_e, uNil_e, uCons_e, truth_b, truth_i, pInt_i, pAbs_i, pNeg_i, pAdd_i, pSub_i, pTup_l, pTup_t, pList_l, pList_t, pLen_l, pLen_t, pLen_s, pItm_l, pItm_t, pItm_s, pIx_l, pIx_t, pIxS_l, isi_ss, isi_tt, isi_bb, isi_ii, isi_bi, cEq_i, cNe_i, cEq_s, cNe_s, cLt_i, cGt_i, cLe_i, cGe_i, cIn_sg, Option.bind_some, Option.map_some, List.length_map, if_true, if_false, Bool.not_true, Bool.not_false, Bool.false_eq_true, decide_true, decide_false, e0, e1, m5, m10, el, enc_0, enc_1, ex, p20]
  obtain ⟨v, hv⟩ := ten_at (x + 1) (x - 1) i (i + 1) (0 - 1) ((w.length : Int) + 1) (k - 1) (x + 10 ^ 20) (0 - (w.length : Int)) k d1
  obtain ⟨a, b, c, d, e, hset, _, _⟩ := len_set3 is h5 (d0 % 5) v p0 p1
  obtain ⟨y1, z1, z2, _⟩ := cutD_map PyData.int is none (some (d0 % 5))
  obtain ⟨y2, z3, z4, _⟩ := cutD_map PyData.int is (some (d0 % 5 + 1)) none
  have ad1 : pAdd (.tuple (cutD (is.map PyData.int) none (some (d0 % 5)))) (.tuple [.int v]) = some (.tuple (cutD (is.map PyData.int) none (some (d0 % 5)) ++ [PyData.int v])) := add_t (by rw [z1]; simp; omega)
  have ad2 : pAdd (.tuple (cutD (is.map PyData.int) none (some (d0 % 5)) ++ [PyData.int v])) (.tuple (cutD (is.map PyData.int) (some (d0 % 5 + 1)) none)) = some (.tuple ([a, b, c, d, e].map .int)) := by
    rw [add_t (by rw [z1, z3]; simp; omega), hset]
  simp -implicitDefEqProofs only [b2_ss, bl_s, bindL_n, bindL_c, tupM_e, lstM_e, ap1_e, ap2_e, ap3_e, ap4_e, ap5_e, ap6_e, slM_s, loM_s, notM_s, bAnd_s, bOr_s, vAnd_s, vOr_s, notV_s, uTup_e, uNil_e, uCons_e, truth_b, truth_i, pInt_i, pAbs_i, pNeg_i, pAdd_i, pSub_i, pTup_l, pTup_t, pList_l, pList_t, pLen_l, pLen_t, pLen_s, pItm_l, pItm_t, pItm_s, pIx_l, pIx_t, pIxS_l, isi_ss, isi_tt, isi_bb, isi_ii, isi_bi, cEq_i, cNe_i, cEq_s, cNe_s, cLt_i, cGt_i, cLe_i, cGe_i, cIn_sg, Option.bind_some, Option.map_some, List.length_map, if_true, if_false, Bool.not_true, Bool.not_false, Bool.false_eq_true, decide_true, decide_false, hv, pSl_t, ad1, ad2]
  exact sat_some ⟨[a, b, c, d, e], rfl, by simp⟩
theorem two_at (x y : Int) (z : Int) : ∃ v : Int, (v = x ∨ v = y) ∧ atI [PyData.int x, PyData.int y] (z % 2) = some (.int v) := by
  have h := mod_pos z (n := 2) (by decide)
  have h3 : z % 2 = 0 ∨ z % 2 = 1 := by omega
  rcases h3 with e | e <;> rw [e]
  · exact ⟨x, .inl rfl, rfl⟩
  · exact ⟨y, .inr rfl, rfl⟩
theorem h_near_line {lns : List (Str × List Int)} {es : List Int} {ls : List Nat} {k i j : Int} (hl : lns.length ≤ 110) (hL : Lns ls 400 lns) (hg : Gd lns) (hd : Dr es 2) (hi0 : 0 ≤ i) (hi1 : i < lns.length) (hj0 : 0 ≤ j) (hj1 : j < lns.length) :
    Sat (m__law_near_line (.list (lns.map enc)) (.int k) (.int i) (.int j) (.list (es.map .int))) fun r => ∃ (w : Str) (is : List Int), r = enc (w, is) ∧ Wd ls 800 w ∧ is.length ≤ 50 := by
  unfold m__law_near_line
  obtain ⟨d0, e0, _, _⟩ := hd.at (i := 0) (by decide) (by decide)
  obtain ⟨d1, e1, _, _⟩ := hd.at (i := 1) (by decide) (by decide)
  have f8 : ∀ x : Int, pFdiv (.int x) (.int 8) = some (.int (x / 8)) := fun x => fdiv_i (by decide) (by decide)
  have f4 : ∀ x : Int, pFdiv (.int x) (.int 4) = some (.int (x / 4)) := fun x => fdiv_i (by decide) (by decide)
  have m5 : ∀ x : Int, pMod (.int x) (.int 5) = some (.int (x % 5)) := fun x => mod_i (by decide)
  have m4 : ∀ x : Int, pMod (.int x) (.int 4) = some (.int (x % 4)) := fun x => mod_i (by decide)
  have m3 : ∀ x : Int, pMod (.int x) (.int 3) = some (.int (x % 3)) := fun x => mod_i (by decide)
  have m2 : ∀ x : Int, pMod (.int x) (.int 2) = some (.int (x % 2)) := fun x => mod_i (by decide)
  have mn : ∀ x : Int, pMod (.int x) (.int (lns.length : Int)) = some (.int (x % lns.length)) := fun x => mod_i (by omega)
  have at' : ∀ q : Int, 0 ≤ q → q < lns.length → ∃ l ∈ lns, atI (lns.map enc) q = some (enc l) := fun q h0 h1 => ⟨_, List.getElem_mem _, at_map h0 h1⟩
  have eli : atI (lns.map enc) i = some (enc (lns[i.toNat]'(by omega))) := at_map hi0 hi1
  have hgi := hg i.toNat _ (List.getElem?_eq_getElem (show i.toNat < lns.length by omega))
  generalize (lns[i.toNat]'(by omega)) = li at eli hgi
  obtain ⟨lj, mj, elj⟩ := at' j hj0 hj1
  simp -implicitDefEqProofs only [b2_ss, bl_s, bindL_n, bindL_c, tupM_e, lstM_e, ap1_e, ap2_e, ap3_e, ap4_e, ap5_e, ap6_e, slM_s, loM_s, notM_s, bAnd_s, bOr_s, vAnd_s, vOr_s, notV_s, uTup_e, uNil_e, uCons_e, truth_b, truth_i, pInt_i, pAbs_i, pNeg_i, pAdd_i, pSub_i, pTup_l, pTup_t, pList_l, pList_t, pLen_l, pLen_t, pLen_s, pItm_l, pItm_t, pItm_s, pIx_l, pIx_t, pIxS_l, isi_ss, isi_tt, isi_bb, isi_ii, isi_bi, cEq_i, cNe_i, cEq_s, cNe_s, cLt_i, cGt_i, cLe_i, cGe_i, cIn_sg, Option.bind_some, Option.map_some, List.length_map, if_true, if_false, Bool.not_true, Bool.not_false, Bool.false_eq_true, decide_true, decide_false, e0, e1, f8, f4, m5, m4, m3, m2, mn, eli, elj, enc_0, enc_1]
  refine sat_jn (fun (t : PyData) => ∃ is : List Int, t = .tuple (is.map .int) ∧ is.length = 5 ∧ (∀ v : Int, is[1]? = some v → 0 ≤ v ∧ v < lns.length) ∧ ∀ v : Int, is[2]? = some v → 0 ≤ v ∧ v < lns.length) ?_ fun k' hk' => ?_
  · rintro t ⟨is, rfl, h5, v1, v2⟩
    obtain ⟨p0, p1⟩ := mod_pos (d0 / 8) (n := 5) (by decide)
    generalize d0 / 8 % 5 = p at p0 p1
    obtain ⟨n0, n1⟩ := mod_pos (d1 / 8) (n := lns.length) (by omega)
    generalize d1 / 8 % (lns.length : Int) = dn at n0 n1
    refine sat_jn (fun (t : PyData) => ∃ x : Int, t = .int x ∧ (p ≤ 2 → 0 ≤ x ∧ x < lns.length)) ?_ fun k' hk' => ?_
    · rintro t ⟨x, rfl, hx⟩
      obtain ⟨a, b, c, d, e, hset, hb, hc⟩ := len_set3 is h5 p x p0 p1
      have hb' : 0 ≤ b ∧ b < lns.length := by
        split at hb
        · cases hb; exact hx (by omega)
        · exact v1 b hb.symm
      have hc' : 0 ≤ c ∧ c < lns.length := by
        split at hc
        · cases hc; exact hx (by omega)
        · exact v2 c hc.symm
      obtain ⟨l1, ml1, el1⟩ := at' b hb'.1 hb'.2
      obtain ⟨l2, ml2, el2⟩ := at' c hc'.1 hc'.2
      have w1 := (hL l1 ml1).1
      have w2 := (hL l2 ml2).1
      have c1 := cutD_map PyData.int is none (some p)
      have c2 := cutD_map PyData.int is (some (p + 1)) none
      obtain ⟨y1, z1, z2, _⟩ := c1
      obtain ⟨y2, z3, z4, _⟩ := c2
      have ad1 : pAdd (.tuple (cutD (is.map PyData.int) none (some p))) (.tuple [.int x]) = some (.tuple (cutD (is.map PyData.int) none (some p) ++ [PyData.int x])) := add_t (by rw [z1]; simp; omega)
      have ad2 : pAdd (.tuple (cutD (is.map PyData.int) none (some p) ++ [PyData.int x])) (.tuple (cutD (is.map PyData.int) (some (p + 1)) none)) = some (.tuple ([a, b, c, d, e].map .int)) := by
        rw [add_t (by rw [z1, z3]; simp; omega), hset]
      have b1 : atI ([a, b, c, d, e].map PyData.int) 1 = some (.int b) := rfl
      have b2' : atI ([a, b, c, d, e].map PyData.int) 2 = some (.int c) := rfl
      have b3 : atI ([a, b, c, d, e].map PyData.int) 3 = some (.int d) := rfl
      have b4 : atI ([a, b, c, d, e].map PyData.int) 4 = some (.int e) := rfl
      have hcat := fun v : Int => cat2 (a := cutS l1.1 none (some v)) (b := cutS l2.1 (some d) none) (Nat.le_trans (w1.cut _ _).len (by omega)) (Nat.le_trans (w2.cut _ _).len (by omega))
      simp -implicitDefEqProofs only [b2_ss, bl_s, bindL_n, bindL_c, tupM_e, lstM_e, ap1_e, ap2_e, ap3_e, ap4_e, ap5_e, ap6_e, slM_s, loM_s, notM_s, bAnd_s, bOr_s, vAnd_s, vOr_s, notV_s, uTup_e, uNil_e, uCons_e, truth_b, truth_i, pInt_i, pAbs_i, pNeg_i, pAdd_i, pSub_i, pTup_l, pTup_t, pList_l, pList_t, pLen_l, pLen_t, pLen_s, pItm_l, pItm_t, pItm_s, pIx_l, pIx_t, pIxS_l, isi_ss, isi_tt, isi_bb, isi_ii, isi_bi, cEq_i, cNe_i, cEq_s, cNe_s, cLt_i, cGt_i, cLe_i, cGe_i, cIn_sg, Option.bind_some, Option.map_some, List.length_map, if_true, if_false, Bool.not_true, Bool.not_false, Bool.false_eq_true, decide_true, decide_false, pSl_t, ad1, ad2, b1, b2', b3, b4, el1, el2, enc_0, pMax2_i, pSl_s, hcat]
      exact sat_some ⟨_, [a, b, c, d, e], rfl, (w1.cut _ _).app (w2.cut _ _), by simp⟩
    · simp -implicitDefEqProofs only [b2_ss, bl_s, bindL_n, bindL_c, tupM_e, lstM_e, ap1_e, ap2_e, ap3_e, ap4_e, ap5_e, ap6_e, slM_s, loM_s, notM_s, bAnd_s, bOr_s, vAnd_s, vOr_s, notV_s, uTup_e, uNil_e, uCons_e, truth_b, truth_i, pInt_i, pAbs_i, pNeg_i, pAdd_i, pSub_i, pTup_l, pTup_t, pList_l, pList_t, pLen_l, pLen_t, pLen_s, pItm_l, pItm_t, pItm_s, pIx_l, pIx_t, pIxS_l, isi_ss, isi_tt, isi_bb, isi_ii, isi_bi, cEq_i, cNe_i, cEq_s, cNe_s, cLt_i, cGt_i, cLe_i, cGe_i, cIn_sg, Option.bind_some, Option.map_some, List.length_map, if_true, if_false, Bool.not_true, Bool.not_false, Bool.false_eq_true, decide_true, decide_false, pMax2_i]
      exact sat_ite (fun h => hk' _ ⟨_, rfl, fun h2 => absurd (of_decide_eq_true h) (by omega)⟩) fun h => hk' _ ⟨_, rfl, fun _ => ⟨n0, n1⟩⟩
  · obtain ⟨x1, hx1, ex1⟩ := two_at i j (d1 / 4)
    obtain ⟨x2, hx2, ex2⟩ := two_at (k + d0 % 3) (k + d0 % 3 + lj.1.length - li.1.length) d0
    simp -implicitDefEqProofs only [b2_ss, bl_s, bindL_n, bindL_c, tupM_e, lstM_e, ap1_e, ap2_e, ap3_e, ap4_e, ap5_e, ap6_e, slM_s, loM_s, notM_s, bAnd_s, bOr_s, vAnd_s, vOr_s, notV_s, uTup_e, uNil_e, uCons_e, truth_b, truth_i, pInt_i, pAbs_i, pNeg_i, pAdd_i, pSub_i, pTup_l, pTup_t, pList_l, pList_t, pLen_l, pLen_t, pLen_s, pItm_l, pItm_t, pItm_s, pIx_l, pIx_t, pIxS_l, isi_ss, isi_tt, isi_bb, isi_ii, isi_bi, cEq_i, cNe_i, cEq_s, cNe_s, cLt_i, cGt_i, cLe_i, cGe_i, cIn_sg, Option.bind_some, Option.map_some, List.length_map, if_true, if_false, Bool.not_true, Bool.not_false, Bool.false_eq_true, decide_true, decide_false, ex1, ex2, ite_some]
    refine sat_ite (fun _ => hk' _ ⟨[i, j, x1, k + d0 % 3, x2], rfl, rfl, fun v h => by cases h; exact ⟨hj0, hj1⟩, fun v h => by
      cases h
      rcases hx1 with rfl | rfl
      · exact ⟨hi0, hi1⟩
      · exact ⟨hj0, hj1⟩⟩) fun hcond => ?_
    have h5 : li.2.length = 5 := by
      split at hcond
      · cases hcond
      · rename_i h
        simp only [Bool.not_eq_true, Bool.not_eq_false', decide_eq_true_eq] at h
        omega
    rcases hgi with e | ⟨a, b, c, d, f, e, hb, hc⟩
    · rw [e] at h5; simp at h5
    · rw [e] at h5 ⊢
      exact hk' _ ⟨_, rfl, h5, fun v h => by cases h; exact ⟨hb.1, by omega⟩, fun v h => by cases h; exact ⟨hc.1, by omega⟩⟩
def Wq (lns : List (Str × List Int)) : Prop := ∀ l ∈ lns, l.1.length ≤ 1000 ∧ l.2.length ≤ 60
theorem set_enc {lns : List (Str × List Int)} {j : Int} {l : Str × List Int} (h0 : 0 ≤ j) (h1 : j < lns.length) : ∃ n : Nat, pSetI (.list (lns.map enc)) (.int j) (enc l) = some (.list ((lns.set n l).map enc)) := by
  refine ⟨j.toNat, ?_⟩
  show (ixN (lns.map enc).length j).bind _ = _
  have e : ixN (lns.map enc).length j = some j.toNat := by
    unfold ixN
    rw [List.length_map]
    first
      | (rw [if_pos (by omega), if_pos (by omega)])
      | (rw [if_neg (by omega), if_pos (by omega)])
      | (simp; omega)
  rw [e, Option.bind_some, List.map_set]
theorem two_tup (a b : List Int) (z : Int) (ha : a.length ≤ 60) (hb : b.length ≤ 60) : ∃ is : List Int, atI [PyData.tuple (a.map .int), .tuple (b.map .int)] (z % 2) = some (.tuple (is.map .int)) ∧ is.length ≤ 60 := by
  have h := mod_pos z (n := 2) (by decide)
  have h3 : z % 2 = 0 ∨ z % 2 = 1 := by omega
  rcases h3 with e | e <;> rw [e]
  · exact ⟨a, rfl, ha⟩
  · exact ⟨b, rfl, hb⟩
theorem five_tup (a b c d e : List Int) (z : Int) (ha : a.length ≤ 60) (hb : b.length ≤ 60) (hc : c.length ≤ 60) (hd : d.length ≤ 60) (he : e.length ≤ 60) : ∃ is : List Int, atI [PyData.tuple (a.map .int), .tuple (b.map .int), .tuple (c.map .int), .tuple (d.map .int), .tuple (e.map .int)] (z % 5) = some (.tuple (is.map .int)) ∧ is.length ≤ 60 := by
  have h := mod_pos z (n := 5) (by decide)
  have h3 : z % 5 = 0 ∨ z % 5 = 1 ∨ z % 5 = 2 ∨ z % 5 = 3 ∨ z % 5 = 4 := by omega
  rcases h3 with q | q | q | q | q <;> rw [q]
  · exact ⟨a, rfl, ha⟩
  · exact ⟨b, rfl, hb⟩
  · exact ⟨c, rfl, hc⟩
  · exact ⟨d, rfl, hd⟩
  · exact ⟨e, rfl, he⟩
theorem six_str (a b c d e f : Str) (z : Int) (ha : a.length ≤ 1000) (hb : b.length ≤ 1000) (hc : c.length ≤ 1000) (hd : d.length ≤ 1000) (he : e.length ≤ 1000) (hf : f.length ≤ 1000) : ∃ w : Str, atI [PyData.str a, .str b, .str c, .str d, .str e, .str f] (z % 6) = some (.str w) ∧ w.length ≤ 1000 := by
  have h := mod_pos z (n := 6) (by decide)
  have h3 : z % 6 = 0 ∨ z % 6 = 1 ∨ z % 6 = 2 ∨ z % 6 = 3 ∨ z % 6 = 4 ∨ z % 6 = 5 := by omega
  rcases h3 with q | q | q | q | q | q <;> rw [q]
  · exact ⟨a, rfl, ha⟩
  · exact ⟨b, rfl, hb⟩
  · exact ⟨c, rfl, hc⟩
  · exact ⟨d, rfl, hd⟩
  · exact ⟨e, rfl, he⟩
  · exact ⟨f, rfl, hf⟩
theorem six_int (a b c d e f : Int) (z : Int) : ∃ v : Int, atI [PyData.int a, .int b, .int c, .int d, .int e, .int f] (z % 6) = some (.int v) := by
  have h := mod_pos z (n := 6) (by decide)
  have h3 : z % 6 = 0 ∨ z % 6 = 1 ∨ z % 6 = 2 ∨ z % 6 = 3 ∨ z % 6 = 4 ∨ z % 6 = 5 := by omega
  rcases h3 with q | q | q | q | q | q <;> rw [q] <;> exact ⟨_, rfl⟩
theorem four_int (a b c d : Int) (z : Int) : ∃ v : Int, atI [PyData.int a, .int b, .int c, .int d] (z % 4) = some (.int v) := by
  have h := mod_pos z (n := 4) (by decide)
  have h3 : z % 4 = 0 ∨ z % 4 = 1 ∨ z % 4 = 2 ∨ z % 4 = 3 := by omega
  rcases h3 with q | q | q | q <;> rw [q] <;> exact ⟨_, rfl⟩
theorem h_spoilt_lines {lns : List (Str × List Int)} {es : List Int} {ls : List Nat} {k : Int} (hl : lns.length ≤ 110) (hL : Lns ls 400 lns) (hg : Gd lns) (hd : Dr es 5) (h1 : 1 ≤ ls.length) :
    Sat (m__law_spoilt_lines (.list (lns.map enc)) (.int k) (.list (ls.map sgn)) (.list (es.map .int))) fun r => ∃ l2, r = .list (l2.map enc) ∧ l2.length ≤ 1000 ∧ Wq l2 := by
  unfold m__law_spoilt_lines
  obtain ⟨d0, e0, _, _⟩ := hd.at (i := 0) (by decide) (by decide)
  obtain ⟨d1, e1, _, _⟩ := hd.at (i := 1) (by decide) (by decide)
  obtain ⟨d2, e2, _, _⟩ := hd.at (i := 2) (by decide) (by decide)
  obtain ⟨d3, e3, _, _⟩ := hd.at (i := 3) (by decide) (by decide)
  obtain ⟨d4, e4, _, _⟩ := hd.at (i := 4) (by decide) (by decide)
  obtain ⟨fs, hfs, Df⟩ := hd.cut (lo := 3) (hi := 5) (by decide) (by decide) (by decide)
  have Df : Dr fs 2 := Df
  obtain ⟨c0, hc0, ec0⟩ := sgn_at 0 h1
  have ec0 : atI (ls.map sgn) 0 = some (sgn c0) := by rw [Int.zero_emod] at ec0; exact ec0
  have m2 : ∀ x : Int, pMod (.int x) (.int 2) = some (.int (x % 2)) := fun x => mod_i (by decide)
  have m4 : ∀ x : Int, pMod (.int x) (.int 4) = some (.int (x % 4)) := fun x => mod_i (by decide)
  have m5 : ∀ x : Int, pMod (.int x) (.int 5) = some (.int (x % 5)) := fun x => mod_i (by decide)
  have m6 : ∀ x : Int, pMod (.int x) (.int 6) = some (.int (x % 6)) := fun x => mod_i (by decide)
  have m14 : ∀ x : Int, pMod (.int x) (.int 14) = some (.int (x % 14)) := fun x => mod_i (by decide)
  obtain ⟨is0, hi0, li0⟩ := two_tup [] [0, 0, 0, k, k] d0 (by simp) (by simp)
  have hi0 : atI [PyData.tuple [], .tuple [.int 0, .int 0, .int 0, .int k, .int k]] (d0 % 2) = some (.tuple (is0.map .int)) := hi0
  simp -implicitDefEqProofs only [b2_ss, bl_s, bindL_n, bindL_c, tupM_e, lstM_e, ap1_e, ap2_e, ap3_e, ap4_e, ap5_e, ap6_e, slM_s, loM_s, notM_s, bAnd_s, bOr_s, vAnd_s, vOr_s, notV_s, uTup_e, uNil_e, uCons_e, truth_b, truth_i, pInt_i, pAbs_i, pNeg_i, pAdd_i, pSub_i, pTup_l, pTup_t, pList_l, pList_t, pLen_l, pLen_t, pLen_s, pItm_l, pItm_t, pItm_s, pIx_l, pIx_t, pIxS_l, isi_ss, isi_tt, isi_bb, isi_ii, isi_bi, cEq_i, cNe_i, cEq_s, cNe_s, cLt_i, cGt_i, cLe_i, cGe_i, cIn_sg, Option.bind_some, Option.map_some, List.length_map, if_true, if_false, Bool.not_true, Bool.not_false, Bool.false_eq_true, decide_true, decide_false, ec0, e0, m2, hi0]
  refine sat_jn' (sat_ite (fun _ => sat_some ⟨[(⟨#[c0]⟩, is0)], rfl, by simp, fun l hl => by rw [List.mem_singleton.mp hl]; exact ⟨by show 1 ≤ 1000; decide, li0⟩⟩) fun hne => ?_)
  have hpos : 1 ≤ lns.length := by have := of_decide_eq_false hne; omega
  have mn : ∀ x : Int, pMod (.int x) (.int (lns.length : Int)) = some (.int (x % lns.length)) := fun x => mod_i (by omega)
  have ml : ∀ x : Int, pMod (.int x) (.int (ls.length : Int)) = some (.int (x % ls.length)) := fun x => mod_i (by omega)
  obtain ⟨a0, a1⟩ := mod_pos d1 (n := lns.length) (by omega)
  obtain ⟨b0, b1⟩ := mod_pos d2 (n := lns.length) (by omega)
  have el : atI (lns.map enc) (d1 % lns.length) = some (enc (lns[(d1 % (lns.length : Int)).toNat]'(by omega))) := at_map a0 a1
  have hlm : (lns[(d1 % (lns.length : Int)).toNat]'(by omega)) ∈ lns := List.getElem_mem _
  generalize (lns[(d1 % (lns.length : Int)).toNat]'(by omega)) = ln at el hlm
  have el2 : atI (lns.map enc) (d2 % lns.length) = some (enc (lns[(d2 % (lns.length : Int)).toNat]'(by omega))) := at_map b0 b1
  have hlm2 : (lns[(d2 % (lns.length : Int)).toNat]'(by omega)) ∈ lns := List.getElem_mem _
  generalize (lns[(d2 % (lns.length : Int)).toNat]'(by omega)) = ln2 at el2 hlm2
  obtain ⟨w, is⟩ := ln
  have hil : is.length ≤ 5 := hg.five hlm
  obtain ⟨hwl, _⟩ := hL _ hlm
  have hwl : Wd ls 400 w := hwl
  have hwn := hwl.len
  obtain ⟨c, hc, ec⟩ := sgn_at d4 h1
  have w0 : pIx (enc (w, is)) (.int 0) = some (.str w) := rfl
  have w1 : pIx (enc (w, is)) (.int 1) = some (.tuple (is.map .int)) := rfl
  have cA : pAdd (.str w) (.str ⟨#[c]⟩) = some (.str (w ++ ⟨#[c]⟩)) := cat2 (by omega) (by show 1 ≤ 1000000; decide)
  have cB : pAdd (.str ⟨#[c]⟩) (.str w) = some (.str (⟨#[c]⟩ ++ w)) := cat2 (by show 1 ≤ 1000000; decide) (by omega)
  have cC : pAdd (.str w) (.str "A") = some (.str (w ++ "A")) := cat2 (by omega) (by decide)
  have pr : pMul (.tuple (is.map .int)) (.int 2) = some (.tuple ((is ++ is).map .int)) := by
    show (if _ then _ else _) = _
    rw [if_pos ⟨by decide, by decide, by simp; omega⟩]
    simp
  obtain ⟨mm, hmm⟩ := six_int k w.length (k - 1) ((w.length : Int) + 1) 0 (0 - 1) d3
  obtain ⟨nn, hnn⟩ := four_int mm mm mm (mm + 1) d4
  obtain ⟨j4, hj4, lj4, _⟩ := cut_ints is none (some 4)
  obtain ⟨q1, hq1, lq1, mq1⟩ := cut_enc lns none (some (d1 % lns.length))
  obtain ⟨q2, hq2, lq2, mq2⟩ := cut_enc lns (some (d1 % lns.length + 1)) none
  obtain ⟨q3, hq3, lq3, mq3⟩ := cut_enc lns none (some (d1 % lns.length + 1))
  obtain ⟨q4, hq4, lq4, mq4⟩ := cut_enc lns (some (d1 % lns.length)) none
  obtain ⟨_, hnl, w', is', rfl, ww, hil'⟩ := h_near_line (k := k) hl hL hg Df a0 a1 b0 b1
  have hA : pAdd (.tuple (is.map .int)) (.tuple [.int 0]) = some (.tuple ((is ++ [0]).map .int)) := add_ints (b := [0]) (by simp; omega)
  have sub : ∀ {q : List (Str × List Int)}, (∀ l ∈ q, l ∈ lns) → Wq q := fun hq l hl => ⟨by have := (hL l (hq l hl)).1.len; omega, by have := hg.five (hq l hl); omega⟩
  have app : ∀ {a b : List (Str × List Int)}, Wq a → Wq b → Wq (a ++ b) := fun ha hb l hl => (List.mem_append.mp hl).elim (ha l) (hb l)
  have one : ∀ {u : Str} {js : List Int}, u.length ≤ 1000 → js.length ≤ 60 → Wq [(u, js)] := fun {u js} hu hj l hl => by rw [List.mem_singleton.mp hl]; exact ⟨hu, hj⟩
  have hB : ∀ (q : List (Str × List Int)) (l : Str × List Int), q.length ≤ 1000 → pAdd (.list (q.map enc)) (.list [enc l]) = some (.list ((q ++ [l]).map enc)) := fun q l hq => add_enc (b := [l]) (by simp; omega)
  have hC : ∀ (a b : List (Str × List Int)), a.length ≤ 1000 → b.length ≤ 1000 → pAdd (.list (a.map enc)) (.list (b.map enc)) = some (.list ((a ++ b).map enc)) := fun a b ha hb => add_enc (by omega)
  have hself : Wq lns := sub fun _ m => m
  simp -implicitDefEqProofs only [b2_ss, bl_s, bindL_n, bindL_c, tupM_e, lstM_e, ap1_e, ap2_e, ap3_e, ap4_e, ap5_e, ap6_e, slM_s, loM_s, notM_s, bAnd_s, bOr_s, vAnd_s, vOr_s, notV_s, uTup_e, uNil_e, uCons_e, truth_b, truth_i, pInt_i, pAbs_i, pNeg_i, pAdd_i, pSub_i, pTup_l, pTup_t, pList_l, pList_t, pLen_l, pLen_t, pLen_s, pItm_l, pItm_t, pItm_s, pIx_l, pIx_t, pIxS_l, isi_ss, isi_tt, isi_bb, isi_ii, isi_bi, cEq_i, cNe_i, cEq_s, cNe_s, cLt_i, cGt_i, cLe_i, cGe_i, cIn_sg, Option.bind_some, Option.map_some, List.length_map, if_true, if_false, Bool.not_true, Bool.not_false, Bool.false_eq_true, decide_true, decide_false, e1, e2, e3, e4, mn, m14, m4, m5, m6, el, el2]
  refine sat_jn (fun t => ∃ (u : Str) (js : List Int), t = enc (u, js) ∧ u.length ≤ 1000 ∧ js.length ≤ 60) ?_ fun k' hk' => ?_
  · rintro t ⟨u, js, rfl, hu, hj⟩
    simp -implicitDefEqProofs only [b2_ss, bl_s, bindL_n, bindL_c, tupM_e, lstM_e, ap1_e, ap2_e, ap3_e, ap4_e, ap5_e, ap6_e, slM_s, loM_s, notM_s, bAnd_s, bOr_s, vAnd_s, vOr_s, notV_s, uTup_e, uNil_e, uCons_e, truth_b, truth_i, pInt_i, pAbs_i, pNeg_i, pAdd_i, pSub_i, pTup_l, pTup_t, pList_l, pList_t, pLen_l, pLen_t, pLen_s, pItm_l, pItm_t, pItm_s, pIx_l, pIx_t, pIxS_l, isi_ss, isi_tt, isi_bb, isi_ii, isi_bi, cEq_i, cNe_i, cEq_s, cNe_s, cLt_i, cGt_i, cLe_i, cGe_i, cIn_sg, Option.bind_some, Option.map_some, List.length_map, if_true, if_false, Bool.not_true, Bool.not_false, Bool.false_eq_true, decide_true, decide_false, pSl_l, hq1, hq2, hB q1 (u, js) (by omega), hC (q1 ++ [(u, js)]) q2 (by simp; omega) (by omega)]
    exact sat_some ⟨_, rfl, by simp; omega, app (app (sub mq1) (one hu hj)) (sub mq2)⟩
  · have hk2 : ∀ (u : Str) (js : List Int), u.length ≤ 1000 → js.length ≤ 60 → Sat (k' (.tuple [.str u, .tuple (js.map .int)])) _ := fun u js hu hj => hk' _ ⟨u, js, rfl, hu, hj⟩
    simp -implicitDefEqProofs only [b2_ss, bl_s, bindL_n, bindL_c, tupM_e, lstM_e, ap1_e, ap2_e, ap3_e, ap4_e, ap5_e, ap6_e, slM_s, loM_s, notM_s, bAnd_s, bOr_s, vAnd_s, vOr_s, notV_s, uTup_e, uNil_e, uCons_e, truth_b, truth_i, pInt_i, pAbs_i, pNeg_i, pAdd_i, pSub_i, pTup_l, pTup_t, pList_l, pList_t, pLen_l, pLen_t, pLen_s, pItm_l, pItm_t, pItm_s, pIx_l, pIx_t, pIxS_l, isi_ss, isi_tt, isi_bb, isi_ii, isi_bi, cEq_i, cNe_i, cEq_s, cNe_s, cLt_i, cGt_i, cLe_i, cGe_i, cIn_sg, Option.bind_some, Option.map_some, List.length_map, if_true, if_false, Bool.not_true, Bool.not_false, Bool.false_eq_true, decide_true, decide_false, w0, w1, ite_some]
    refine sat_ite (fun hcond => ?_) fun _ => ?_
    · have h5 : is.length = 5 := by
        split at hcond
        · have := of_decide_eq_true hcond; omega
        · cases hcond
      obtain ⟨_, hsn, js, rfl, hjs⟩ := h_spoilt_number (k := k) Df el h5
      simp -implicitDefEqProofs only [b2_ss, bl_s, bindL_n, bindL_c, tupM_e, lstM_e, ap1_e, ap2_e, ap3_e, ap4_e, ap5_e, ap6_e, slM_s, loM_s, notM_s, bAnd_s, bOr_s, vAnd_s, vOr_s, notV_s, uTup_e, uNil_e, uCons_e, truth_b, truth_i, pInt_i, pAbs_i, pNeg_i, pAdd_i, pSub_i, pTup_l, pTup_t, pList_l, pList_t, pLen_l, pLen_t, pLen_s, pItm_l, pItm_t, pItm_s, pIx_l, pIx_t, pIxS_l, isi_ss, isi_tt, isi_bb, isi_ii, isi_bi, cEq_i, cNe_i, cEq_s, cNe_s, cLt_i, cGt_i, cLe_i, cGe_i, cIn_sg, Option.bind_some, Option.map_some, List.length_map, if_true, if_false, Bool.not_true, Bool.not_false, Bool.false_eq_true, decide_true, decide_false, pSl_l, hfs, hsn]
      exact hk2 w js (by omega) (by omega)
    refine sat_ite (fun _ => ?_) fun _ => ?_
    · simp -implicitDefEqProofs only [b2_ss, bl_s, bindL_n, bindL_c, tupM_e, lstM_e, ap1_e, ap2_e, ap3_e, ap4_e, ap5_e, ap6_e, slM_s, loM_s, notM_s, bAnd_s, bOr_s, vAnd_s, vOr_s, notV_s, uTup_e, uNil_e, uCons_e, truth_b, truth_i, pInt_i, pAbs_i, pNeg_i, pAdd_i, pSub_i, pTup_l, pTup_t, pList_l, pList_t, pLen_l, pLen_t, pLen_s, pItm_l, pItm_t, pItm_s, pIx_l, pIx_t, pIxS_l, isi_ss, isi_tt, isi_bb, isi_ii, isi_bi, cEq_i, cNe_i, cEq_s, cNe_s, cLt_i, cGt_i, cLe_i, cGe_i, cIn_sg, Option.bind_some, Option.map_some, List.length_map, if_true, if_false, Bool.not_true, Bool.not_false, Bool.false_eq_true, decide_true, decide_false, hmm, hnn]
      have hb := hB lns (w, [d1 % lns.length, d1 % lns.length, d1 % lns.length, mm, nn]) (by omega)
      refine Sat.of (congrArg (fun z => Option.bind z some) hb) ⟨_, rfl, by simp; omega, app hself (one (by omega) (by simp))⟩
    refine sat_ite (fun _ => ?_) fun _ => ?_
    · simp -implicitDefEqProofs only [b2_ss, bl_s, bindL_n, bindL_c, tupM_e, lstM_e, ap1_e, ap2_e, ap3_e, ap4_e, ap5_e, ap6_e, slM_s, loM_s, notM_s, bAnd_s, bOr_s, vAnd_s, vOr_s, notV_s, uTup_e, uNil_e, uCons_e, truth_b, truth_i, pInt_i, pAbs_i, pNeg_i, pAdd_i, pSub_i, pTup_l, pTup_t, pList_l, pList_t, pLen_l, pLen_t, pLen_s, pItm_l, pItm_t, pItm_s, pIx_l, pIx_t, pIxS_l, isi_ss, isi_tt, isi_bb, isi_ii, isi_bi, cEq_i, cNe_i, cEq_s, cNe_s, cLt_i, cGt_i, cLe_i, cGe_i, cIn_sg, Option.bind_some, Option.map_some, List.length_map, if_true, if_false, Bool.not_true, Bool.not_false, Bool.false_eq_true, decide_true, decide_false, pSl_l, hfs, hnl, hB lns (w', is') (by omega)]
      exact sat_some ⟨_, rfl, by simp; omega, app hself (one (Nat.le_trans ww.len (by decide)) (by omega))⟩
    refine sat_ite (fun _ => ?_) fun _ => ?_
    · obtain ⟨n1, hn1⟩ := set_enc (lns := lns) (l := ln2) a0 a1
      obtain ⟨n2, hn2⟩ := set_enc (lns := lns.set n1 ln2) (l := (w, is)) b0 (by simpa using b1)
      simp -implicitDefEqProofs only [b2_ss, bl_s, bindL_n, bindL_c, tupM_e, lstM_e, ap1_e, ap2_e, ap3_e, ap4_e, ap5_e, ap6_e, slM_s, loM_s, notM_s, bAnd_s, bOr_s, vAnd_s, vOr_s, notV_s, uTup_e, uNil_e, uCons_e, truth_b, truth_i, pInt_i, pAbs_i, pNeg_i, pAdd_i, pSub_i, pTup_l, pTup_t, pList_l, pList_t, pLen_l, pLen_t, pLen_s, pItm_l, pItm_t, pItm_s, pIx_l, pIx_t, pIxS_l, isi_ss, isi_tt, isi_bb, isi_ii, isi_bi, cEq_i, cNe_i, cEq_s, cNe_s, cLt_i, cGt_i, cLe_i, cGe_i, cIn_sg, Option.bind_some, Option.map_some, List.length_map, if_true, if_false, Bool.not_true, Bool.not_false, Bool.false_eq_true, decide_true, decide_false, hn1, hn2]
      refine sat_some ⟨_, rfl, by simp; omega, fun l m => ?_⟩
      rcases List.mem_or_eq_of_mem_set m with m | rfl
      · rcases List.mem_or_eq_of_mem_set m with m | rfl
        · exact hself l m
        · exact hself _ hlm2
      · exact hself _ hlm
    refine sat_ite (fun _ => ?_) fun _ => ?_
    · simp -implicitDefEqProofs only [b2_ss, bl_s, bindL_n, bindL_c, tupM_e, lstM_e, ap1_e, ap2_e, ap3_e, ap4_e, ap5_e, ap6_e, slM_s, loM_s, notM_s, bAnd_s, bOr_s, vAnd_s, vOr_s, notV_s, uTup_e, uNil_e, uCons_e, truth_b, truth_i, pInt_i, pAbs_i, pNeg_i, pAdd_i, pSub_i, pTup_l, pTup_t, pList_l, pList_t, pLen_l, pLen_t, pLen_s, pItm_l, pItm_t, pItm_s, pIx_l, pIx_t, pIxS_l, isi_ss, isi_tt, isi_bb, isi_ii, isi_bi, cEq_i, cNe_i, cEq_s, cNe_s, cLt_i, cGt_i, cLe_i, cGe_i, cIn_sg, Option.bind_some, Option.map_some, List.length_map, if_true, if_false, Bool.not_true, Bool.not_false, Bool.false_eq_true, decide_true, decide_false, pSl_l, hq1, hq2, hC q1 q2 (by omega) (by omega)]
      exact sat_some ⟨_, rfl, by simp; omega, app (sub mq1) (sub mq2)⟩
    refine sat_ite (fun _ => ?_) fun _ => ?_
    · obtain ⟨js, hjs, ljs⟩ := five_tup [] (is ++ [0]) j4 [0, 0, 0, k, k] (is ++ is) d3 (by simp) (by simp; omega) (by omega) (by simp) (by simp; omega)
      have hjs : atI [PyData.tuple [], .tuple ((is ++ [0]).map .int), .tuple (j4.map .int), .tuple [.int 0, .int 0, .int 0, .int k, .int k], .tuple ((is ++ is).map .int)] (d3 % 5) = some (.tuple (js.map .int)) := hjs
      simp -implicitDefEqProofs only [b2_ss, bl_s, bindL_n, bindL_c, tupM_e, lstM_e, ap1_e, ap2_e, ap3_e, ap4_e, ap5_e, ap6_e, slM_s, loM_s, notM_s, bAnd_s, bOr_s, vAnd_s, vOr_s, notV_s, uTup_e, uNil_e, uCons_e, truth_b, truth_i, pInt_i, pAbs_i, pNeg_i, pAdd_i, pSub_i, pTup_l, pTup_t, pList_l, pList_t, pLen_l, pLen_t, pLen_s, pItm_l, pItm_t, pItm_s, pIx_l, pIx_t, pIxS_l, isi_ss, isi_tt, isi_bb, isi_ii, isi_bi, cEq_i, cNe_i, cEq_s, cNe_s, cLt_i, cGt_i, cLe_i, cGe_i, cIn_sg, Option.bind_some, Option.map_some, List.length_map, if_true, if_false, Bool.not_true, Bool.not_false, Bool.false_eq_true, decide_true, decide_false, hA, pSl_t, hj4, pr, hjs]
      exact hk2 _ _ (by omega) ljs
    refine sat_ite (fun _ => ?_) fun _ => ?_
    · obtain ⟨u, hu, lu⟩ := six_str (w ++ ⟨#[c]⟩) (⟨#[c]⟩ ++ w) (cutS w (some 1) none) (cutS w none (some (-1))) (w ++ "A") "?" d3 (by rw [len_app]; show w.length + 1 ≤ 1000; omega) (by rw [len_app]; show 1 + w.length ≤ 1000; omega) (Nat.le_trans (cut_len _ _ _) (by omega)) (Nat.le_trans (cut_len _ _ _) (by omega)) (by rw [len_app]; show w.length + 1 ≤ 1000; omega) (by decide)
      simp -implicitDefEqProofs only [b2_ss, bl_s, bindL_n, bindL_c, tupM_e, lstM_e, ap1_e, ap2_e, ap3_e, ap4_e, ap5_e, ap6_e, slM_s, loM_s, notM_s, bAnd_s, bOr_s, vAnd_s, vOr_s, notV_s, uTup_e, uNil_e, uCons_e, truth_b, truth_i, pInt_i, pAbs_i, pNeg_i, pAdd_i, pSub_i, pTup_l, pTup_t, pList_l, pList_t, pLen_l, pLen_t, pLen_s, pItm_l, pItm_t, pItm_s, pIx_l, pIx_t, pIxS_l, isi_ss, isi_tt, isi_bb, isi_ii, isi_bi, cEq_i, cNe_i, cEq_s, cNe_s, cLt_i, cGt_i, cLe_i, cGe_i, cIn_sg, Option.bind_some, Option.map_some, List.length_map, if_true, if_false, Bool.not_true, Bool.not_false, Bool.false_eq_true, decide_true, decide_false, ml, ec, cA, cB, cC, pSl_s, hu]
      exact hk2 _ _ lu (by omega)
    · simp -implicitDefEqProofs only [b2_ss, bl_s, bindL_n, bindL_c, tupM_e, lstM_e, ap1_e, ap2_e, ap3_e, ap4_e, ap5_e, ap6_e, slM_s, loM_s, notM_s, bAnd_s, bOr_s, vAnd_s, vOr_s, notV_s, uTup_e, uNil_e, uCons_e, truth_b, truth_i, pInt_i, pAbs_i, pNeg_i, pAdd_i, pSub_i, pTup_l, pTup_t, pList_l, pList_t, pLen_l, pLen_t, pLen_s, pItm_l, pItm_t, pItm_s, pIx_l, pIx_t, pIxS_l, isi_ss, isi_tt, isi_bb, isi_ii, isi_bi, cEq_i, cNe_i, cEq_s, cNe_s, cLt_i, cGt_i, cLe_i, cGe_i, cIn_sg, Option.bind_some, Option.map_some, List.length_map, if_true, if_false, Bool.not_true, Bool.not_false, Bool.false_eq_true, decide_true, decide_false, pSl_l, hq3, hq4, hC q3 q4 (by omega) (by omega)]
      exact sat_some ⟨_, rfl, by simp; omega, app (sub mq3) (sub mq4)⟩
theorem h_is_told {rs : List Str} {k : Int} {lns : List (Str × List Int)} {z : Str} (hk0 : 0 ≤ k) (hl : lns.length < 1000000) (hw : ∀ l ∈ lns, l.1.length ≤ 1000000) (hi : ∀ l ∈ lns, l.2.length ≤ 100000) (hrs : ∀ z ∈ rs, IsRun z) :
    m__law_is_told (.tuple (rs.map .str)) (.int k) (.tuple (lns.map enc)) (.str z) = some (.bool true) := by
  unfold m__law_is_told
  have h1 := h_judge (rs := rs) (k := k) (z := z) (Nat.le_refl _) hl hw
  have h2 := h_derives (rs := rs) (k := k) (z := z) hk0 (Nat.le_refl _) hl hw hi hrs
  simp -implicitDefEqProofs only [b2_ss, bl_s, bindL_n, bindL_c, tupM_e, lstM_e, ap1_e, ap2_e, ap3_e, ap4_e, ap5_e, ap6_e, slM_s, loM_s, notM_s, bAnd_s, bOr_s, vAnd_s, vOr_s, notV_s, uTup_e, uNil_e, uCons_e, truth_b, truth_i, pInt_i, pAbs_i, pNeg_i, pAdd_i, pSub_i, pTup_l, pTup_t, pList_l, pList_t, pLen_l, pLen_t, pLen_s, pItm_l, pItm_t, pItm_s, pIx_l, pIx_t, pIxS_l, isi_ss, isi_tt, isi_bb, isi_ii, isi_bi, cEq_i, cNe_i, cEq_s, cNe_s, cLt_i, cGt_i, cLe_i, cGe_i, cIn_sg, Option.bind_some, Option.map_some, List.length_map, if_true, if_false, Bool.not_true, Bool.not_false, Bool.false_eq_true, decide_true, decide_false, h1, h2]
  rw [cEq_self (pl_b _)]
  rfl
theorem plain_law (ns : List Int) (hl : ns.length ≤ 63) : m_law (.list (ns.map .int)) = some (.bool true) := by
  apply Sat.eq
  unfold m_law
  obtain ⟨_, hs, ls, rs0, k, rfl, l1, l2, l3, r1, r2, k0, k1⟩ := h_seen_any ns (at0 := 0) (n := 4) (L := 8) (by decide) (by decide) (by decide) (by decide) (by decide)
  obtain ⟨c2, hc2⟩ := h_cell ns (k := 2) (by decide)
  obtain ⟨_, hd, ds, rfl, hdl, hdr⟩ := h_draws c2 (n := 26) (by decide) (by decide)
  have D : Dr ds 26 := ⟨hdl, hdr⟩
  obtain ⟨x24, ex24, p24, _⟩ := D.at (i := 24) (by decide) (by decide)
  obtain ⟨x25, ex25, p25, _⟩ := D.at (i := 25) (by decide) (by decide)
  have m2 : ∀ x : Int, pMod (.int x) (.int 2) = some (.int (x % 2)) := fun x => mod_i (by decide)
  obtain ⟨rs, hrs, rl0, rm0⟩ := cutD_map PyData.str rs0 none (some 12)
  have rl : rs.length ≤ 12 := by
    have h : rs.length = (cutD (rs0.map PyData.str) none (some 12)).length := by rw [hrs, List.length_map]
    rw [h]; unfold cutD
    rw [List.length_take, sIx_pos (by decide), sIx_nn]
    have : (12 : Int).toNat = 12 := rfl
    omega
  have rm : ∀ z ∈ rs, Wd ls 64 z := fun z m => r2 z (rm0 z m)
  have rw4 : ∀ z ∈ rs, Wd ls 400 z := fun z m => (rm z m).le (by decide)
  have rrun : ∀ z ∈ rs, IsRun z := fun z m => (rm z m).run l3
  obtain ⟨es, hes, De⟩ := D.cut0 (hi := 24) (by decide) (by decide)
  have De : Dr es 24 := De
  obtain ⟨_, hw6, w6, rfl, u6, v6⟩ := h_word (d := x24) (L := 6) (ls := ls) p24 l1 (by omega) (by decide) (by decide)
  obtain ⟨_, hg, good, rfl, a6, b6, g6⟩ := h_own_lines (k := k) (most := 64) (es := es) rl rw4 k0 (by omega) De (by decide) (by decide)
  obtain ⟨_, hg4, lns4, rfl, a4, b4, g4⟩ := h_own_lines (k := k) (most := 400) (es := es) rl rw4 k0 (by omega) De (by decide) (by decide)
  have hnear : ∃ near : Int, (if decide (x25 % 2 = 0) = true then pMax2 (.int 0) (.int (k - 1)) else pMin2 (.int 20) (.int (k + 1))) = some (.int near) ∧ 0 ≤ near := by
    split
    · exact ⟨_, rfl, by split <;> omega⟩
    · exact ⟨_, rfl, by split <;> omega⟩
  obtain ⟨near, hn, n0⟩ := hnear
  have tk : ∀ (q : List Str) (k' : Int) (l : List (Str × List Int)) (z : Str), 0 ≤ k' → (∀ z ∈ q, IsRun z) → l.length ≤ 1000 → Wq l → m__law_is_told (.tuple (q.map .str)) (.int k') (.tuple (l.map enc)) (.str z) = some (.bool true) := fun q k' l z h1 h2 h3 h4 => h_is_told h1 (by omega) (fun x m => by have := (h4 x m).1; omega) (fun x m => by have := (h4 x m).2; omega) h2
  have wq : ∀ {l : List (Str × List Int)}, Lns ls 400 l → Wq l := fun h x m => ⟨by have := (h x m).1.len; omega, by have := (h x m).2; omega⟩
  have hrev : (rs.map PyData.str).reverse = rs.reverse.map .str := by rw [List.map_reverse]
  simp -implicitDefEqProofs only [b2_ss, bl_s, bindL_n, bindL_c, tupM_e, lstM_e, ap1_e, ap2_e, ap3_e, ap4_e, ap5_e, ap6_e, slM_s, loM_s, notM_s, bAnd_s, bOr_s, vAnd_s, vOr_s, notV_s, uTup_e, uNil_e, uCons_e, truth_b, truth_i, pInt_i, pAbs_i, pNeg_i, pAdd_i, pSub_i, pTup_l, pTup_t, pList_l, pList_t, pLen_l, pLen_t, pLen_s, pItm_l, pItm_t, pItm_s, pIx_l, pIx_t, pIxS_l, isi_ss, isi_tt, isi_bb, isi_ii, isi_bi, cEq_i, cNe_i, cEq_s, cNe_s, cLt_i, cGt_i, cLe_i, cGe_i, cIn_sg, Option.bind_some, Option.map_some, List.length_map, if_true, if_false, Bool.not_true, Bool.not_false, Bool.false_eq_true, decide_true, decide_false, hs, at_t0, at_t1, at_t2, hrs, pSl_t, hc2, hd, ex24, ex25, m2, pSl_l, hes, hg, hw6, iteM_s, hn, List.length_map]
  let P : PyData → Prop := fun y => ∃ l : List (Str × List Int), y = .list (l.map enc) ∧ l.length ≤ 1000 ∧ Wq l
  refine sat_jn (fun (t : PyData) => ∃ ps : List PyData, t = .list ps ∧ ps.length ≤ 10 ∧ ∀ y ∈ ps, P y) ?_ fun k9 hk9 => ?_
  · rintro t ⟨ps, rfl, pl0, hp⟩
    refine sat_jn' (sat_rng (fun i (t : PyData) => ∃ ps : List PyData, t = .list ps ∧ ps.length ≤ 10 + i ∧ ∀ y ∈ ps, P y) 6 (rng1n (by decide)) ⟨ps, rfl, pl0, hp⟩ ?_ ?_)
    · rintro i t hi ⟨qs, rfl, ql, hq⟩
      obtain ⟨ci, hci⟩ := h_cell ns (k := 3 + (i : Int)) (by omega)
      obtain ⟨_, hdi, di, rfl, hdil, hdir⟩ := h_draws ci (n := 5) (by decide) (by decide)
      obtain ⟨_, hsp, l2', rfl, s1, s2⟩ := h_spoilt_lines (lns := good) (es := di) (ls := ls) (k := k) (by omega) b6 g6 ⟨hdil, hdir⟩ l1
      have happ : pApp (.list qs) (.list (l2'.map enc)) = some (.list (qs ++ [.list (l2'.map enc)])) := if_pos (by omega)
      simp -implicitDefEqProofs only [b2_ss, bl_s, bindL_n, bindL_c, tupM_e, lstM_e, ap1_e, ap2_e, ap3_e, ap4_e, ap5_e, ap6_e, slM_s, loM_s, notM_s, bAnd_s, bOr_s, vAnd_s, vOr_s, notV_s, uTup_e, uNil_e, uCons_e, truth_b, truth_i, pInt_i, pAbs_i, pNeg_i, pAdd_i, pSub_i, pTup_l, pTup_t, pList_l, pList_t, pLen_l, pLen_t, pLen_s, pItm_l, pItm_t, pItm_s, pIx_l, pIx_t, pIxS_l, isi_ss, isi_tt, isi_bb, isi_ii, isi_bi, cEq_i, cNe_i, cEq_s, cNe_s, cLt_i, cGt_i, cLe_i, cGe_i, cIn_sg, Option.bind_some, Option.map_some, List.length_map, if_true, if_false, Bool.not_true, Bool.not_false, Bool.false_eq_true, decide_true, decide_false, hci, hdi, hsp, happ]
      refine sat_some ⟨_, rfl, _, rfl, by simp; omega, fun y m => ?_⟩
      rcases List.mem_append.mp m with m | m
      · exact hq y m
      · rw [List.mem_singleton.mp m]; exact ⟨l2', rfl, s1, s2⟩
    · rintro t ⟨qs, rfl, ql, hq⟩
      have hadd : pAdd (.list qs) (.list [.list (good.map enc)]) = some (.list (qs ++ [.list (good.map enc)])) := add_l (by simp; omega)
      have hall : ∀ y ∈ qs ++ [PyData.list (good.map enc)], P y := fun y m => by
        rcases List.mem_append.mp m with m | m
        · exact hq y m
        · rw [List.mem_singleton.mp m]; exact ⟨good, rfl, by omega, wq b6⟩
      simp -implicitDefEqProofs only [b2_ss, bl_s, bindL_n, bindL_c, tupM_e, lstM_e, ap1_e, ap2_e, ap3_e, ap4_e, ap5_e, ap6_e, slM_s, loM_s, notM_s, bAnd_s, bOr_s, vAnd_s, vOr_s, notV_s, uTup_e, uNil_e, uCons_e, truth_b, truth_i, pInt_i, pAbs_i, pNeg_i, pAdd_i, pSub_i, pTup_l, pTup_t, pList_l, pList_t, pLen_l, pLen_t, pLen_s, pItm_l, pItm_t, pItm_s, pIx_l, pIx_t, pIxS_l, isi_ss, isi_tt, isi_bb, isi_ii, isi_bi, cEq_i, cNe_i, cEq_s, cNe_s, cLt_i, cGt_i, cLe_i, cGe_i, cIn_sg, Option.bind_some, Option.map_some, List.length_map, if_true, if_false, Bool.not_true, Bool.not_false, Bool.false_eq_true, decide_true, decide_false, hadd]
      refine sat_jn' (sat_for (fun _ _ => True) _ rfl trivial ?_ fun _ _ => sat_some rfl)
      rintro j t x hx -
      obtain ⟨l, rfl, ll, lw⟩ := hall x (List.mem_of_getElem? hx)
      simp -implicitDefEqProofs only [b2_ss, bl_s, bindL_n, bindL_c, tupM_e, lstM_e, ap1_e, ap2_e, ap3_e, ap4_e, ap5_e, ap6_e, slM_s, loM_s, notM_s, bAnd_s, bOr_s, vAnd_s, vOr_s, notV_s, uTup_e, uNil_e, uCons_e, truth_b, truth_i, pInt_i, pAbs_i, pNeg_i, pAdd_i, pSub_i, pTup_l, pTup_t, pList_l, pList_t, pLen_l, pLen_t, pLen_s, pItm_l, pItm_t, pItm_s, pIx_l, pIx_t, pIxS_l, isi_ss, isi_tt, isi_bb, isi_ii, isi_bi, cEq_i, cNe_i, cEq_s, cNe_s, cLt_i, cGt_i, cLe_i, cGe_i, cIn_sg, Option.bind_some, Option.map_some, List.length_map, if_true, if_false, Bool.not_true, Bool.not_false, Bool.false_eq_true, decide_true, decide_false, pTup_l]
      refine sat_jn (fun (t : PyData) => ∃ z : Str, t = .str z) ?_ fun k21 hk21 => ?_
      · rintro t ⟨z, rfl⟩
        have t1 := tk rs k l z k0 rrun ll lw
        have t2 := tk rs.reverse k l w6 k0 (fun z m => rrun z (List.mem_reverse.mp m)) ll lw
        have t3 := tk rs near l z n0 rrun ll lw
        simp -implicitDefEqProofs only [b2_ss, bl_s, bindL_n, bindL_c, tupM_e, lstM_e, ap1_e, ap2_e, ap3_e, ap4_e, ap5_e, ap6_e, slM_s, loM_s, notM_s, bAnd_s, bOr_s, vAnd_s, vOr_s, notV_s, uTup_e, uNil_e, uCons_e, truth_b, truth_i, pInt_i, pAbs_i, pNeg_i, pAdd_i, pSub_i, pTup_l, pTup_t, pList_l, pList_t, pLen_l, pLen_t, pLen_s, pItm_l, pItm_t, pItm_s, pIx_l, pIx_t, pIxS_l, isi_ss, isi_tt, isi_bb, isi_ii, isi_bi, cEq_i, cNe_i, cEq_s, cNe_s, cLt_i, cGt_i, cLe_i, cGe_i, cIn_sg, Option.bind_some, Option.map_some, List.length_map, if_true, if_false, Bool.not_true, Bool.not_false, Bool.false_eq_true, decide_true, decide_false, t1, pRev_t, hrev, t2, t3, jn_s, iteM_s]
        exact sat_some ⟨_, rfl, trivial⟩
      · rcases List.eq_nil_or_concat l with rfl | ⟨l', x, rfl⟩
        · simp -implicitDefEqProofs only [b2_ss, bl_s, bindL_n, bindL_c, tupM_e, lstM_e, ap1_e, ap2_e, ap3_e, ap4_e, ap5_e, ap6_e, slM_s, loM_s, notM_s, bAnd_s, bOr_s, vAnd_s, vOr_s, notV_s, uTup_e, uNil_e, uCons_e, truth_b, truth_i, pInt_i, pAbs_i, pNeg_i, pAdd_i, pSub_i, pTup_l, pTup_t, pList_l, pList_t, pLen_l, pLen_t, pLen_s, pItm_l, pItm_t, pItm_s, pIx_l, pIx_t, pIxS_l, isi_ss, isi_tt, isi_bb, isi_ii, isi_bi, cEq_i, cNe_i, cEq_s, cNe_s, cLt_i, cGt_i, cLe_i, cGe_i, cIn_sg, Option.bind_some, Option.map_some, List.length_map, if_true, if_false, Bool.not_true, Bool.not_false, Bool.false_eq_true, decide_true, decide_false, List.map_nil, List.length_nil, show decide ((0 : Int) < ((0 : Nat) : Int)) = false from rfl]
          exact sat_ite (fun h => nomatch h) fun _ => hk21 _ ⟨_, rfl⟩
        · rw [List.concat_eq_append] at lw ⊢
          have hx2 := last_enc l' x
          have hx0 : x.1.length ≤ 16777216 := by have := (lw x (by simp)).1; omega
          have e2 : decide ((0 : Int) < ((l' ++ [x]).length : Int)) = true := decide_eq_true (by simp)
          simp -implicitDefEqProofs only [b2_ss, bl_s, bindL_n, bindL_c, tupM_e, lstM_e, ap1_e, ap2_e, ap3_e, ap4_e, ap5_e, ap6_e, slM_s, loM_s, notM_s, bAnd_s, bOr_s, vAnd_s, vOr_s, notV_s, uTup_e, uNil_e, uCons_e, truth_b, truth_i, pInt_i, pAbs_i, pNeg_i, pAdd_i, pSub_i, pTup_l, pTup_t, pList_l, pList_t, pLen_l, pLen_t, pLen_s, pItm_l, pItm_t, pItm_s, pIx_l, pIx_t, pIxS_l, isi_ss, isi_tt, isi_bb, isi_ii, isi_bi, cEq_i, cNe_i, cEq_s, cNe_s, cLt_i, cGt_i, cLe_i, cGe_i, cIn_sg, Option.bind_some, Option.map_some, List.length_map, if_true, if_false, Bool.not_true, Bool.not_false, Bool.false_eq_true, decide_true, decide_false, hx2, enc_0, h_is_run_b x.1 hx0, e2]
          have hh : (if isrunB x.fst = true then some (decide ((x.fst.length : Int) ≤ 64)) else some false) = some (isrunB x.fst && decide ((x.fst.length : Int) ≤ 64)) := by cases isrunB x.fst <;> rfl
          rw [hh]
          exact sat_ite (fun _ => hk21 _ ⟨_, rfl⟩) fun _ => hk21 _ ⟨_, rfl⟩
  · have base : ∀ y ∈ [PyData.list (good.map enc), .list []], P y := fun y m => by
      rcases List.mem_cons.mp m with rfl | m
      · exact ⟨good, rfl, by omega, wq b6⟩
      · rw [List.mem_singleton.mp m]; exact ⟨[], rfl, by simp, fun _ m => nomatch m⟩
    refine sat_ite (fun h => ?_) fun _ => hk9 _ ⟨_, rfl, by simp, base⟩
    have h0 : 1 ≤ rs.length := by have := of_decide_eq_true h; omega
    obtain ⟨z0, rs', rfl⟩ : ∃ z rs', rs = z :: rs' := by
      cases rs with
      | nil => simp at h0
      | cons z r => exact ⟨z, r, rfl⟩
    have hadd : pAdd (.list (lns4.map enc)) (.list [.tuple [.str z0, .tuple []]]) = some (.list ((lns4 ++ [(z0, [])]).map enc)) := add_enc (b := [(z0, [])]) (by simp; omega)
    have happ : pApp (.list [PyData.list (good.map enc), .list []]) (.list ((lns4 ++ [(z0, [])]).map enc)) = some (.list ([PyData.list (good.map enc), .list []] ++ [.list ((lns4 ++ [(z0, [])]).map enc)])) := rfl
    rw [List.map_cons] at hg4
    simp -implicitDefEqProofs only [b2_ss, bl_s, bindL_n, bindL_c, tupM_e, lstM_e, ap1_e, ap2_e, ap3_e, ap4_e, ap5_e, ap6_e, slM_s, loM_s, notM_s, bAnd_s, bOr_s, vAnd_s, vOr_s, notV_s, uTup_e, uNil_e, uCons_e, truth_b, truth_i, pInt_i, pAbs_i, pNeg_i, pAdd_i, pSub_i, pTup_l, pTup_t, pList_l, pList_t, pLen_l, pLen_t, pLen_s, pItm_l, pItm_t, pItm_s, pIx_l, pIx_t, pIxS_l, isi_ss, isi_tt, isi_bb, isi_ii, isi_bi, cEq_i, cNe_i, cEq_s, cNe_s, cLt_i, cGt_i, cLe_i, cGe_i, cIn_sg, Option.bind_some, Option.map_some, List.length_map, if_true, if_false, Bool.not_true, Bool.not_false, Bool.false_eq_true, decide_true, decide_false, List.map_cons, hg4, at_0, hadd, happ]
    refine hk9 _ ⟨_, rfl, by simp, fun y m => ?_⟩
    rcases List.mem_append.mp m with m | m
    · exact base y m
    · rw [List.mem_singleton.mp m]
      exact ⟨_, rfl, by simp; omega, fun l m => (List.mem_append.mp m).elim (wq b4 l) fun m => by
        rw [List.mem_singleton.mp m]; exact ⟨by have := (rm z0 (by simp)).len; show z0.length ≤ 1000; omega, by show 0 ≤ 60; decide⟩⟩
/-! ### walks -/
abbrev st_corner_run : Stmt := topS 1
theorem sc_corner_run : FnScope ["runs", "reason", "_", "j", "h", "m", "n"] ["runs", "reason"] (defScope st_corner_run) := ⟨rfl, rfl, rfl, by decide +kernel, rfl, by decide +kernel, by decide +kernel⟩
theorem ok_corner_run {P : Program} {w : World} {K : PySem.W.Frag} {mg : Str → Option Value} {base : Heap} {f : Addr} {fd : FuncData} {tb : Addr → Prop} (F : Fun K "corner_run" "corner_run" st_corner_run f fd) (B : Bi mg) : FnOk P w K mg base CX0 1 f fd ["runs", "reason"] (spD ⟨P, w, K, tb⟩ [.fr, .fr] .fr (ap2 m_corner_run)) := by
  refine f_ok F sc_corner_run rfl (by decide) fun cdv A outer s H E ds hr hd => ?_
  obtain ⟨a0, a1, rfl⟩ := len2 hd
  show PSs _ _ (tS _ [.fr, .fr, .un, .un, .un, .un, .un] [a0, a1, PyData.none, PyData.none, PyData.none, PyData.none, PyData.none] _ (m_corner_run a0 a1))
  unfold m_corner_run
  exact (s_asgT (e_fr (i := 1) rfl (by first | exact Or.inl rfl | exact Or.inr (Or.inl rfl) | exact Or.inr (Or.inr rfl) | exact Or.inr rfl) rfl rfl) (g_tup rfl (gs_cons (g_name (i := 2) sc_corner_run.nd rfl (by first | exact Or.inl rfl | exact Or.inr (Or.inl rfl) | exact Or.inr (Or.inr rfl) | exact Or.inr rfl) (by decide)) (fun _ => (gs_cons (g_name (i := 3) sc_corner_run.nd rfl (by first | exact Or.inl rfl | exact Or.inr (Or.inl rfl) | exact Or.inr (Or.inr rfl) | exact Or.inr rfl) (by decide)) (fun _ => (gs_cons (g_name (i := 4) sc_corner_run.nd rfl (by first | exact Or.inl rfl | exact Or.inr (Or.inl rfl) | exact Or.inr (Or.inr rfl) | exact Or.inr rfl) (by decide)) (fun _ => (gs_cons (g_name (i := 5) sc_corner_run.nd rfl (by first | exact Or.inl rfl | exact Or.inr (Or.inl rfl) | exact Or.inr (Or.inr rfl) | exact Or.inr rfl) (by decide)) (fun _ => (gs_cons (g_name (i := 6) sc_corner_run.nd rfl (by first | exact Or.inl rfl | exact Or.inr (Or.inl rfl) | exact Or.inr (Or.inr rfl) | exact Or.inr rfl) (by decide)) (fun _ => gs_nil)))))))))) (u_cons (u_cons (u_cons (u_cons (u_cons u_nil)))))) (fun z1 =>
(s_one (z_ret rfl (O_toE (x_bin o_add (O_toV (x_sl (toV (x_ix (toV (e_fr (i := 0) rfl (by first | exact Or.inl rfl | exact Or.inr (Or.inl rfl) | exact Or.inr (Or.inr rfl) | exact Or.inr rfl) rfl rfl)) (toV (e_fr (i := 3) rfl (by first | exact Or.inl rfl | exact Or.inr (Or.inl rfl) | exact Or.inr (Or.inr rfl) | exact Or.inr rfl) rfl rfl)))) p_none (x_some (e_fr (i := 6) rfl (by first | exact Or.inl rfl | exact Or.inr (Or.inl rfl) | exact Or.inr (Or.inr rfl) | exact Or.inr rfl) rfl rfl)))) (O_toV (x_sl (toV (x_ix (toV (e_fr (i := 0) rfl (by first | exact Or.inl rfl | exact Or.inr (Or.inl rfl) | exact Or.inr (Or.inr rfl) | exact Or.inr rfl) rfl rfl)) (toV (e_fr (i := 4) rfl (by first | exact Or.inl rfl | exact Or.inr (Or.inl rfl) | exact Or.inr (Or.inr rfl) | exact Or.inr rfl) rfl rfl)))) (x_some (e_fr (i := 5) rfl (by first | exact Or.inl rfl | exact Or.inr (Or.inl rfl) | exact Or.inr (Or.inr rfl) | exact Or.inr rfl) rfl rfl)) p_none)))) (by exact (fun d r h => Option.some.inj h))))))
abbrev st_is_corner : Stmt := topS 2
theorem sc_is_corner : FnScope ["runs", "k", "reason", "i", "j", "h", "m", "n", "first", "second", "third", "number"] ["runs", "k", "reason"] (defScope st_is_corner) := ⟨rfl, rfl, rfl, by decide +kernel, rfl, by decide +kernel, by decide +kernel⟩
theorem ok_is_corner {P : Program} {w : World} {K : PySem.W.Frag} {mg : Str → Option Value} {base : Heap} {f : Addr} {fd : FuncData} {tb : Addr → Prop} (F : Fun K "is_corner" "is_corner" st_is_corner f fd) (B : Bi mg) {c Pt : Addr} (hcd : fd.code = .ref c) (T : TbAt mg base tb c Pt) : FnOk P w K mg base CX0 1 f fd ["runs", "k", "reason"] (spD ⟨P, w, K, tb⟩ [.fr, .fr, .fr] .fr (ap3 m_is_corner)) := by
  refine f_okG F sc_is_corner hcd rfl (by decide) fun A outer s H E ds hr hd => ?_
  obtain ⟨a0, a1, a2, rfl⟩ := len3 hd
  show PSs _ _ (tS _ [.fr, .fr, .fr, .un, .un, .un, .un, .un, .un, .un, .un, .un] [a0, a1, a2, PyData.none, PyData.none, PyData.none, PyData.none, PyData.none, PyData.none, PyData.none, PyData.none, PyData.none] _ (m_is_corner a0 a1 a2))
  unfold m_is_corner
  exact (s_jn (emb := fun (t3 : Unit) => [a0, a1, a2, PyData.none, PyData.none, PyData.none, PyData.none, PyData.none, PyData.none, PyData.none, PyData.none, PyData.none]) (sh' := [.fr, .fr, .fr, .un, .un, .un, .un, .un, .un, .un, .un, .un]) (fun k2 => z_if (PW.pt (w_or (y_cmp (o_ne hr) (O_toV (e_b1 o_len (st_view _) (by rfl) B.n_len bt_len (toV (e_fr (i := 2) rfl (by first | exact Or.inl rfl | exact Or.inr (Or.inl rfl) | exact Or.inr (Or.inr rfl) | exact Or.inr rfl) rfl rfl)))) (toV e_int) (nomark _)) (w_or1 (t_val (toV (x_anyG hr (by rfl) B.n_any T.tab rfl T.is (genS_by (by rfl) (as1 ⟨_, rfl⟩ as0)) (cap_cons 0 rfl (by first | exact Or.inl rfl | exact Or.inr rfl) rfl rfl rfl cap_nil) (O_toE (x_sl (toV (e_fr (i := 2) rfl (by first | exact Or.inl rfl | exact Or.inr (Or.inl rfl) | exact Or.inr (Or.inr rfl) | exact Or.inr rfl) rfl rfl)) p_none (x_some e_int))) (fun z1 => (ge_or (ge_cmp (gc_lt (gU hr)) (ge_name (.head _)) ge_int (nomark _)) (ge_or1 (ge_cmp (gc_ge (gU hr)) (ge_name (.head _)) (ge_len rfl B.n_len (ge_name (.tail _ (.head _)))) (nomark _)))))))))))
(s_one (z_ret rfl e_bl (by exact (fun d r h => Option.some.inj h))))
(s_nil (env' := [a0, a1, a2, PyData.none, PyData.none, PyData.none, PyData.none, PyData.none, PyData.none, PyData.none, PyData.none, PyData.none]) (fun r h => ⟨(), rfl, h⟩) ⟨.inl ⟨rfl, rfl⟩, .inl ⟨rfl, rfl⟩, .inl ⟨rfl, rfl⟩, .inr rfl, .inr rfl, .inr rfl, .inr rfl, .inr rfl, .inr rfl, .inr rfl, .inr rfl, .inr rfl, trivial⟩)) (fun t3 =>
(s_asgT (e_fr (i := 2) rfl (by first | exact Or.inl rfl | exact Or.inr (Or.inl rfl) | exact Or.inr (Or.inr rfl) | exact Or.inr rfl) rfl rfl) (g_tup rfl (gs_cons (g_name (i := 3) sc_is_corner.nd rfl (by first | exact Or.inl rfl | exact Or.inr (Or.inl rfl) | exact Or.inr (Or.inr rfl) | exact Or.inr rfl) (by decide)) (fun _ => (gs_cons (g_name (i := 4) sc_is_corner.nd rfl (by first | exact Or.inl rfl | exact Or.inr (Or.inl rfl) | exact Or.inr (Or.inr rfl) | exact Or.inr rfl) (by decide)) (fun _ => (gs_cons (g_name (i := 5) sc_is_corner.nd rfl (by first | exact Or.inl rfl | exact Or.inr (Or.inl rfl) | exact Or.inr (Or.inr rfl) | exact Or.inr rfl) (by decide)) (fun _ => (gs_cons (g_name (i := 6) sc_is_corner.nd rfl (by first | exact Or.inl rfl | exact Or.inr (Or.inl rfl) | exact Or.inr (Or.inr rfl) | exact Or.inr rfl) (by decide)) (fun _ => (gs_cons (g_name (i := 7) sc_is_corner.nd rfl (by first | exact Or.inl rfl | exact Or.inr (Or.inl rfl) | exact Or.inr (Or.inr rfl) | exact Or.inr rfl) (by decide)) (fun _ => gs_nil)))))))))) (u_cons (u_cons (u_cons (u_cons (u_cons u_nil)))))) (fun z4 =>
(z_par3 (i := 8) (j := 9) (l := 10) rfl sc_is_corner.nd rfl rfl rfl (by decide) (by decide) (by decide) rfl rfl rfl (by decide) (by decide) (by decide) (a_cons (st_rep _) (x_ix (toV (e_fr (i := 0) rfl (by first | exact Or.inl rfl | exact Or.inr (Or.inl rfl) | exact Or.inr (Or.inr rfl) | exact Or.inr rfl) rfl rfl)) (toV (e_fr (i := 3) rfl (by first | exact Or.inl rfl | exact Or.inr (Or.inl rfl) | exact Or.inr (Or.inr rfl) | exact Or.inr rfl) rfl rfl))) (a_cons (st_rep _) (x_ix (toV (e_fr (i := 0) rfl (by first | exact Or.inl rfl | exact Or.inr (Or.inl rfl) | exact Or.inr (Or.inr rfl) | exact Or.inr rfl) rfl rfl)) (toV (e_fr (i := 4) rfl (by first | exact Or.inl rfl | exact Or.inr (Or.inl rfl) | exact Or.inr (Or.inr rfl) | exact Or.inr rfl) rfl rfl))) (a_cons (st_rep _) (x_ix (toV (e_fr (i := 0) rfl (by first | exact Or.inl rfl | exact Or.inr (Or.inl rfl) | exact Or.inr (Or.inr rfl) | exact Or.inr rfl) rfl rfl)) (toV (e_fr (i := 5) rfl (by first | exact Or.inl rfl | exact Or.inr (Or.inl rfl) | exact Or.inr (Or.inr rfl) | exact Or.inr rfl) rfl rfl))) a_nil))) (fun d5 d6 d7 =>
(s_jn (emb := fun (t9 : Unit) => [PyData.none, a1, PyData.none, PyData.none, PyData.none, PyData.none, z4.2.2.2.1, z4.2.2.2.2.1, d5, d6, d7, PyData.none]) (sh' := [.un, .fr, .un, .un, .un, .un, .fr, .fr, .fr, .fr, .fr, .un]) (fun k8 => z_if (PW.pt (w_or (y_cmp (o_lt hr) (toV (e_fr (i := 6) rfl (by first | exact Or.inl rfl | exact Or.inr (Or.inl rfl) | exact Or.inr (Or.inr rfl) | exact Or.inr rfl) rfl rfl)) (toV (e_fr (i := 1) rfl (by first | exact Or.inl rfl | exact Or.inr (Or.inl rfl) | exact Or.inr (Or.inr rfl) | exact Or.inr rfl) rfl rfl)) (nomark _)) (w_or (y_cmp (o_lt hr) (toV (e_fr (i := 7) rfl (by first | exact Or.inl rfl | exact Or.inr (Or.inl rfl) | exact Or.inr (Or.inr rfl) | exact Or.inr rfl) rfl rfl)) (toV (e_fr (i := 1) rfl (by first | exact Or.inl rfl | exact Or.inr (Or.inl rfl) | exact Or.inr (Or.inr rfl) | exact Or.inr rfl) rfl rfl)) (nomark _)) (w_or (y_cmp (o_gt hr) (toV (e_fr (i := 6) rfl (by first | exact Or.inl rfl | exact Or.inr (Or.inl rfl) | exact Or.inr (Or.inr rfl) | exact Or.inr rfl) rfl rfl)) (O_toV (e_b1 o_len (st_view _) (by rfl) B.n_len bt_len (toV (e_fr (i := 8) rfl (by first | exact Or.inl rfl | exact Or.inr (Or.inl rfl) | exact Or.inr (Or.inr rfl) | exact Or.inr rfl) rfl rfl)))) (nomark _)) (w_or (y_cmp (o_gt hr) (toV (e_fr (i := 6) rfl (by first | exact Or.inl rfl | exact Or.inr (Or.inl rfl) | exact Or.inr (Or.inr rfl) | exact Or.inr rfl) rfl rfl)) (O_toV (e_b1 o_len (st_view _) (by rfl) B.n_len bt_len (toV (e_fr (i := 10) rfl (by first | exact Or.inl rfl | exact Or.inr (Or.inl rfl) | exact Or.inr (Or.inr rfl) | exact Or.inr rfl) rfl rfl)))) (nomark _)) (w_or1 (y_cmp (o_gt hr) (toV (e_fr (i := 7) rfl (by first | exact Or.inl rfl | exact Or.inr (Or.inl rfl) | exact Or.inr (Or.inr rfl) | exact Or.inr rfl) rfl rfl)) (O_toV (e_b1 o_len (st_view _) (by rfl) B.n_len bt_len (toV (e_fr (i := 9) rfl (by first | exact Or.inl rfl | exact Or.inr (Or.inl rfl) | exact Or.inr (Or.inr rfl) | exact Or.inr rfl) rfl rfl)))) (nomark _))))))))
(s_one (z_ret rfl e_bl (by exact (fun d r h => Option.some.inj h))))
(s_nil (env' := [PyData.none, a1, PyData.none, PyData.none, PyData.none, PyData.none, z4.2.2.2.1, z4.2.2.2.2.1, d5, d6, d7, PyData.none]) (fun r h => ⟨(), rfl, h⟩) ⟨.inr rfl, .inl ⟨rfl, rfl⟩, .inr rfl, .inr rfl, .inr rfl, .inr rfl, .inl ⟨rfl, rfl⟩, .inl ⟨rfl, rfl⟩, .inl ⟨rfl, rfl⟩, .inl ⟨rfl, rfl⟩, .inl ⟨rfl, rfl⟩, .inr rfl, trivial⟩)) (fun t9 =>
(s_jn (emb := fun (t11 : Unit) => [PyData.none, PyData.none, PyData.none, PyData.none, PyData.none, PyData.none, z4.2.2.2.1, PyData.none, d5, PyData.none, d7, PyData.none]) (sh' := [.un, .un, .un, .un, .un, .un, .fr, .un, .fr, .un, .fr, .un]) (fun k10 => z_if (PW.pt (w_or (y_cmp (o_ne hr) (O_toV (x_sl (toV (e_fr (i := 8) rfl (by first | exact Or.inl rfl | exact Or.inr (Or.inl rfl) | exact Or.inr (Or.inr rfl) | exact Or.inr rfl) rfl rfl)) (x_some (O_toE (x_bin o_sub (toV (e_fr (i := 6) rfl (by first | exact Or.inl rfl | exact Or.inr (Or.inl rfl) | exact Or.inr (Or.inr rfl) | exact Or.inr rfl) rfl rfl)) (toV (e_fr (i := 1) rfl (by first | exact Or.inl rfl | exact Or.inr (Or.inl rfl) | exact Or.inr (Or.inr rfl) | exact Or.inr rfl) rfl rfl))))) (x_some (e_fr (i := 6) rfl (by first | exact Or.inl rfl | exact Or.inr (Or.inl rfl) | exact Or.inr (Or.inr rfl) | exact Or.inr rfl) rfl rfl)))) (O_toV (x_sl (toV (e_fr (i := 9) rfl (by first | exact Or.inl rfl | exact Or.inr (Or.inl rfl) | exact Or.inr (Or.inr rfl) | exact Or.inr rfl) rfl rfl)) (x_some (O_toE (x_bin o_sub (toV (e_fr (i := 7) rfl (by first | exact Or.inl rfl | exact Or.inr (Or.inl rfl) | exact Or.inr (Or.inr rfl) | exact Or.inr rfl) rfl rfl)) (toV (e_fr (i := 1) rfl (by first | exact Or.inl rfl | exact Or.inr (Or.inl rfl) | exact Or.inr (Or.inr rfl) | exact Or.inr rfl) rfl rfl))))) (x_some (e_fr (i := 7) rfl (by first | exact Or.inl rfl | exact Or.inr (Or.inl rfl) | exact Or.inr (Or.inr rfl) | exact Or.inr rfl) rfl rfl)))) (nomark _)) (w_or1 (y_cmp (o_ne hr) (O_toV (x_sl (toV (e_fr (i := 8) rfl (by first | exact Or.inl rfl | exact Or.inr (Or.inl rfl) | exact Or.inr (Or.inr rfl) | exact Or.inr rfl) rfl rfl)) (x_some (e_fr (i := 6) rfl (by first | exact Or.inl rfl | exact Or.inr (Or.inl rfl) | exact Or.inr (Or.inr rfl) | exact Or.inr rfl) rfl rfl)) p_none)) (O_toV (x_sl (toV (e_fr (i := 9) rfl (by first | exact Or.inl rfl | exact Or.inr (Or.inl rfl) | exact Or.inr (Or.inr rfl) | exact Or.inr rfl) rfl rfl)) (x_some (e_fr (i := 7) rfl (by first | exact Or.inl rfl | exact Or.inr (Or.inl rfl) | exact Or.inr (Or.inr rfl) | exact Or.inr rfl) rfl rfl)) p_none)) (nomark _)))))
(s_one (z_ret rfl e_bl (by exact (fun d r h => Option.some.inj h))))
(s_nil (env' := [PyData.none, PyData.none, PyData.none, PyData.none, PyData.none, PyData.none, z4.2.2.2.1, PyData.none, d5, PyData.none, d7, PyData.none]) (fun r h => ⟨(), rfl, h⟩) ⟨.inr rfl, .inr rfl, .inr rfl, .inr rfl, .inr rfl, .inr rfl, .inl ⟨rfl, rfl⟩, .inr rfl, .inl ⟨rfl, rfl⟩, .inr rfl, .inl ⟨rfl, rfl⟩, .inr rfl, trivial⟩)) (fun t11 =>
(s_one (z_ret rfl (x_cmp (o_eq hr) (O_toV (x_sl (toV (e_fr (i := 10) rfl (by first | exact Or.inl rfl | exact Or.inr (Or.inl rfl) | exact Or.inr (Or.inr rfl) | exact Or.inr rfl) rfl rfl)) p_none (x_some (e_fr (i := 6) rfl (by first | exact Or.inl rfl | exact Or.inr (Or.inl rfl) | exact Or.inr (Or.inr rfl) | exact Or.inr rfl) rfl rfl)))) (O_toV (x_sl (toV (e_fr (i := 8) rfl (by first | exact Or.inl rfl | exact Or.inr (Or.inl rfl) | exact Or.inr (Or.inr rfl) | exact Or.inr rfl) rfl rfl)) p_none (x_some (e_fr (i := 6) rfl (by first | exact Or.inl rfl | exact Or.inr (Or.inl rfl) | exact Or.inr (Or.inr rfl) | exact Or.inr rfl) rfl rfl)))) (nomark _)) (by exact (fun d r h => Option.some.inj h))))))))))))))
abbrev st_judge_derivation : Stmt := topS 3
theorem sc_judge_derivation : FnScope ["runs", "k", "lines", "run", "known", "word", "reason"] ["runs", "k", "lines", "run"] (defScope st_judge_derivation) := ⟨rfl, rfl, rfl, by decide +kernel, rfl, by decide +kernel, by decide +kernel⟩
theorem ok_judge_derivation {P : Program} {w : World} {K : PySem.W.Frag} {mg : Str → Option Value} {base : Heap} {f : Addr} {fd : FuncData} {tb : Addr → Prop} (F : Fun K "judge_derivation" "judge_derivation" st_judge_derivation f fd) (B : Bi mg) (C_corner_run : CallOk ⟨P, w, K, tb⟩ mg base "corner_run" 1 [.fr, .fr] .fr (ap2 m_corner_run)) (C_is_corner : CallOk ⟨P, w, K, tb⟩ mg base "is_corner" 1 [.fr, .fr, .fr] .fr (ap3 m_is_corner)) : FnOk P w K mg base CX0 2 f fd ["runs", "k", "lines", "run"] (spD ⟨P, w, K, tb⟩ [.fr, .fr, .fr, .fr] .fr (ap4 m_judge_derivation)) := by
  refine f_ok F sc_judge_derivation rfl (by decide) fun cdv A outer s H E ds hr hd => ?_
  obtain ⟨a0, a1, a2, a3, rfl⟩ := len4 hd
  show PSs _ _ (tS _ [.fr, .fr, .fr, .fr, .un, .un, .un] [a0, a1, a2, a3, PyData.none, PyData.none, PyData.none] _ (m_judge_derivation a0 a1 a2 a3))
  unfold m_judge_derivation
  exact (s_own (T := .any) sc_judge_derivation.nd (i := 4) rfl (by first | exact Or.inl rfl | exact Or.inr (Or.inl rfl) | exact Or.inr (Or.inr rfl) | exact Or.inr rfl) (by decide) (x_lst a_nil hp0 (by decide) rfl) (fun d1 =>
(s_jn (emb := fun (t4 : PyData) => [a0, a1, a2, a3, t4, PyData.none, PyData.none]) (sh' := [.fr, .fr, .fr, .fr, .ow .any, .un, .un]) (fun k2 => z_for (t0 := d1) PassesOwn.never rfl ⟨.inl ⟨rfl, rfl⟩, .inl ⟨rfl, rfl⟩, .inl ⟨rfl, rfl⟩, .inl ⟨rfl, rfl⟩, .inl ⟨rfl, rfl⟩, .inr rfl, .inr rfl, trivial⟩ (i_any (e_fr (i := 2) rfl (by first | exact Or.inl rfl | exact Or.inr (Or.inl rfl) | exact Or.inr (Or.inr rfl) | exact Or.inr rfl) rfl rfl)) (fun t3 => (g_tup rfl (gs_cons (g_name (i := 5) sc_judge_derivation.nd rfl (by first | exact Or.inl rfl | exact Or.inr (Or.inl rfl) | exact Or.inr (Or.inr rfl) | exact Or.inr rfl) (by decide)) (fun _ => (gs_cons (g_name (i := 6) sc_judge_derivation.nd rfl (by first | exact Or.inl rfl | exact Or.inr (Or.inl rfl) | exact Or.inr (Or.inr rfl) | exact Or.inr rfl) (by decide)) (fun _ => gs_nil)))) (u_cons (u_cons u_nil)))) (fun t3 z5 =>
(s_jn (emb := fun (t7 : Unit) => [a0, a1, a2, a3, t3, z5.1, PyData.none]) (sh' := [.fr, .fr, .fr, .fr, .ow .any, .fr, .un]) (fun k6 => z_if (y_cmp (o_eq hr) (toV (e_fr (i := 6) rfl (by first | exact Or.inl rfl | exact Or.inr (Or.inl rfl) | exact Or.inr (Or.inr rfl) | exact Or.inr rfl) rfl rfl)) (toV (x_tup a_nil hp0 (by decide) rfl)) (nomark _))
(s_one (z_if (y_cmp (o_notin hr) (toV (e_fr (i := 5) rfl (by first | exact Or.inl rfl | exact Or.inr (Or.inl rfl) | exact Or.inr (Or.inr rfl) | exact Or.inr rfl) rfl rfl)) (toV (e_fr (i := 0) rfl (by first | exact Or.inl rfl | exact Or.inr (Or.inl rfl) | exact Or.inr (Or.inr rfl) | exact Or.inr rfl) rfl rfl)) (by rfl))
(s_one (z_ret rfl e_bl (by exact (fun d r h => ⟨d, rfl, (Option.some.inj h).symm⟩))))
(s_nil (env' := [a0, a1, a2, a3, t3, z5.1, PyData.none]) (fun r h => ⟨(), rfl, h⟩) ⟨.inl ⟨rfl, rfl⟩, .inl ⟨rfl, rfl⟩, .inl ⟨rfl, rfl⟩, .inl ⟨rfl, rfl⟩, .inl ⟨rfl, rfl⟩, .inl ⟨rfl, rfl⟩, .inr rfl, trivial⟩)))
(s_one (z_if (t_thaw 4 rfl rfl (PW.pt (w_or (y_not (t_val (toV (O_toE (e_call C_is_corner hr (by decide) (by rfl) (a_cons (st_rep _) (e_fr (i := 4) rfl (by first | exact Or.inl rfl | exact Or.inr (Or.inl rfl) | exact Or.inr (Or.inr rfl) | exact Or.inr rfl) rfl rfl) (a_cons (st_rep _) (e_fr (i := 1) rfl (by first | exact Or.inl rfl | exact Or.inr (Or.inl rfl) | exact Or.inr (Or.inr rfl) | exact Or.inr rfl) rfl rfl) (a_cons (st_rep _) (e_fr (i := 6) rfl (by first | exact Or.inl rfl | exact Or.inr (Or.inl rfl) | exact Or.inr (Or.inr rfl) | exact Or.inr rfl) rfl rfl) a_nil))) rfl))))) (w_or1 (y_cmp (o_ne hr) (toV (O_toE (e_call C_corner_run hr (by decide) (by rfl) (a_cons (st_rep _) (e_fr (i := 4) rfl (by first | exact Or.inl rfl | exact Or.inr (Or.inl rfl) | exact Or.inr (Or.inr rfl) | exact Or.inr rfl) rfl rfl) (a_cons (st_rep _) (e_fr (i := 6) rfl (by first | exact Or.inl rfl | exact Or.inr (Or.inl rfl) | exact Or.inr (Or.inr rfl) | exact Or.inr rfl) rfl rfl) a_nil)) rfl))) (toV (e_fr (i := 5) rfl (by first | exact Or.inl rfl | exact Or.inr (Or.inl rfl) | exact Or.inr (Or.inr rfl) | exact Or.inr rfl) rfl rfl)) (nomark _))))))
(s_one (z_ret rfl e_bl (by exact (fun d r h => ⟨d, rfl, (Option.some.inj h).symm⟩))))
(s_nil (env' := [a0, a1, a2, a3, t3, z5.1, PyData.none]) (fun r h => ⟨(), rfl, h⟩) ⟨.inl ⟨rfl, rfl⟩, .inl ⟨rfl, rfl⟩, .inl ⟨rfl, rfl⟩, .inl ⟨rfl, rfl⟩, .inl ⟨rfl, rfl⟩, .inl ⟨rfl, rfl⟩, .inr rfl, trivial⟩)))) (fun t7 =>
(s_app (i := 4) rfl rfl (pe_bm PySem.F.plainAttrs_list PySem.F.slot_list_append PySem.F.type_list_append mt_append (pe_var (i := 4) rfl (by first | exact Or.inl rfl | exact Or.inr (Or.inl rfl) | exact Or.inr (Or.inr rfl) | exact Or.inr rfl) (by decide) (by decide)) (pa_cons (e_fr (i := 5) rfl (by first | exact Or.inl rfl | exact Or.inr (Or.inl rfl) | exact Or.inr (Or.inr rfl) | exact Or.inr rfl) rfl rfl) pa_nil)) (fun d8 =>
(s_nil (env' := [a0, a1, a2, a3, d8, PyData.none, PyData.none]) (fun r h => ⟨d8, rfl, (Option.some.inj h).symm⟩) ⟨.inl ⟨rfl, rfl⟩, .inl ⟨rfl, rfl⟩, .inl ⟨rfl, rfl⟩, .inl ⟨rfl, rfl⟩, .inl ⟨rfl, rfl⟩, .inr rfl, .inr rfl, trivial⟩))))))) (fun t4 =>
(s_one (z_ret rfl (e_and (x_cmp (o_gt hr) (O_toV (e_b1 o_len (st_view _) (by rfl) B.n_len bt_len (e_ow (i := 4) rfl (by first | exact Or.inl rfl | exact Or.inr (Or.inl rfl) | exact Or.inr (Or.inr rfl) | exact Or.inr rfl) rfl rfl))) (toV e_int) (nomark _)) (e_and1 (x_cmp (o_eq hr) (toV (x_ix (e_ow (i := 4) rfl (by first | exact Or.inl rfl | exact Or.inr (Or.inl rfl) | exact Or.inr (Or.inr rfl) | exact Or.inr rfl) rfl rfl) (toV (e_neg e_int)))) (toV (e_fr (i := 3) rfl (by first | exact Or.inl rfl | exact Or.inr (Or.inl rfl) | exact Or.inr (Or.inr rfl) | exact Or.inr rfl) rfl rfl)) (nomark _)))) (by exact (fun d r h => Option.some.inj h))))))))
abbrev st__law_cell : Stmt := topS 5
theorem sc__law_cell : FnScope ["script", "k"] ["script", "k"] (defScope st__law_cell) := ⟨rfl, rfl, rfl, by decide +kernel, rfl, by decide +kernel, by decide +kernel⟩
theorem ok__law_cell {P : Program} {w : World} {K : PySem.W.Frag} {mg : Str → Option Value} {base : Heap} {f : Addr} {fd : FuncData} {tb : Addr → Prop} (F : Fun K "_law_cell" "_law_cell" st__law_cell f fd) (B : Bi mg) : FnOk P w K mg base CX0 1 f fd ["script", "k"] (spD ⟨P, w, K, tb⟩ [.sc, .fr] .fr (ap2 m__law_cell)) := by
  refine f_ok F sc__law_cell rfl (by decide) fun cdv A outer s H E ds hr hd => ?_
  obtain ⟨a0, a1, rfl⟩ := len2 hd
  show PSs _ _ (tS _ [.sc, .fr] [a0, a1] _ (m__law_cell a0 a1))
  unfold m__law_cell
  exact (s_jn (emb := fun (t2 : Unit) => [PyData.none, a1]) (sh' := [.un, .fr]) (fun k1 => z_if (y_cmp (o_lt hr) (toV (e_fr (i := 1) rfl (by first | exact Or.inl rfl | exact Or.inr (Or.inl rfl) | exact Or.inr (Or.inr rfl) | exact Or.inr rfl) rfl rfl)) (O_toV (e_b1 o_lenS (st_scr _) (by rfl) B.n_len bt_len (e_sc (i := 0) rfl (by first | exact Or.inl rfl | exact Or.inr (Or.inl rfl) | exact Or.inr (Or.inr rfl) | exact Or.inr rfl) rfl rfl))) (nomark _))
(s_one (z_ret rfl (x_ixS (e_sc (i := 0) rfl (by first | exact Or.inl rfl | exact Or.inr (Or.inl rfl) | exact Or.inr (Or.inr rfl) | exact Or.inr rfl) rfl rfl) (toV (e_fr (i := 1) rfl (by first | exact Or.inl rfl | exact Or.inr (Or.inl rfl) | exact Or.inr (Or.inr rfl) | exact Or.inr rfl) rfl rfl))) (by exact (fun d r h => Option.some.inj h))))
(s_nil (env' := [PyData.none, a1]) (fun r h => ⟨(), rfl, h⟩) ⟨.inr rfl, .inl ⟨rfl, rfl⟩, trivial⟩)) (fun t2 =>
(s_one (z_ret rfl (O_toE (x_bin o_add (O_toV (x_bin o_mul (toV e_int) (toV (e_fr (i := 1) rfl (by first | exact Or.inl rfl | exact Or.inr (Or.inl rfl) | exact Or.inr (Or.inr rfl) | exact Or.inr rfl) rfl rfl)))) (toV e_int))) (by exact (fun d r h => Option.some.inj h))))))
abbrev st__law_draws : Stmt := topS 6
theorem sc__law_draws : FnScope ["cell", "count", "rest", "digits", "seed", "draws", "k", "mixed"] ["cell", "count"] (defScope st__law_draws) := ⟨rfl, rfl, rfl, by decide +kernel, rfl, by decide +kernel, by decide +kernel⟩
theorem ok__law_draws {P : Program} {w : World} {K : PySem.W.Frag} {mg : Str → Option Value} {base : Heap} {f : Addr} {fd : FuncData} {tb : Addr → Prop} (F : Fun K "_law_draws" "_law_draws" st__law_draws f fd) (B : Bi mg) : FnOk P w K mg base CX0 1 f fd ["cell", "count"] (spD ⟨P, w, K, tb⟩ [.fr, .fr] .fr (ap2 m__law_draws)) := by
  refine f_ok F sc__law_draws rfl (by decide) fun cdv A outer s H E ds hr hd => ?_
  obtain ⟨a0, a1, rfl⟩ := len2 hd
  show PSs _ _ (tS _ [.fr, .fr, .un, .un, .un, .un, .un, .un] [a0, a1, PyData.none, PyData.none, PyData.none, PyData.none, PyData.none, PyData.none] _ (m__law_draws a0 a1))
  unfold m__law_draws
  exact (s_asg sc__law_draws.nd (i := 2) rfl (by first | exact Or.inl rfl | exact Or.inr (Or.inl rfl) | exact Or.inr (Or.inr rfl) | exact Or.inr rfl) (by decide) (O_toE (e_b1 o_abs (st_view _) (by rfl) B.n_abs bt_abs (O_toV (e_t1 o_int (st_view _) (by rfl) B.n_int bt_int (toV (e_fr (i := 0) rfl (by first | exact Or.inl rfl | exact Or.inr (Or.inl rfl) | exact Or.inr (Or.inr rfl) | exact Or.inr rfl) rfl rfl)))))) (fun d1 =>
(s_asg sc__law_draws.nd (i := 3) rfl (by first | exact Or.inl rfl | exact Or.inr (Or.inl rfl) | exact Or.inr (Or.inr rfl) | exact Or.inr rfl) (by decide) (x_cmp (o_ge hr) (toV (e_fr (i := 2) rfl (by first | exact Or.inl rfl | exact Or.inr (Or.inl rfl) | exact Or.inr (Or.inr rfl) | exact Or.inr rfl) rfl rfl)) (O_toV (x_bin o_pow (toV e_int) (toV e_int))) (nomark _)) (fun d2 =>
(s_asg sc__law_draws.nd (i := 4) rfl (by first | exact Or.inl rfl | exact Or.inr (Or.inl rfl) | exact Or.inr (Or.inr rfl) | exact Or.inr rfl) (by decide) (e_fr (i := 2) rfl (by first | exact Or.inl rfl | exact Or.inr (Or.inl rfl) | exact Or.inr (Or.inr rfl) | exact Or.inr rfl) rfl rfl) (fun d3 =>
(s_own (T := .any) sc__law_draws.nd (i := 5) rfl (by first | exact Or.inl rfl | exact Or.inr (Or.inl rfl) | exact Or.inr (Or.inr rfl) | exact Or.inr rfl) (by decide) (x_lst a_nil hp0 (by decide) rfl) (fun d4 =>
(s_jn (emb := fun (t7 : PyData × PyData) => [PyData.none, a1, t7.1, d2, d3, t7.2, PyData.none, PyData.none]) (sh' := [.un, .fr, .fr, .fr, .fr, .ow .any, .un, .un]) (fun k5 => z_for (t0 := (d1, d4)) PassesOwn.never rfl ⟨.inr rfl, .inl ⟨rfl, rfl⟩, .inl ⟨rfl, rfl⟩, .inl ⟨rfl, rfl⟩, .inl ⟨rfl, rfl⟩, .inl ⟨rfl, rfl⟩, .inr rfl, .inr rfl, trivial⟩ (i_rng1 (by rfl) B.n_range (e_fr (i := 1) rfl (by first | exact Or.inl rfl | exact Or.inr (Or.inl rfl) | exact Or.inr (Or.inr rfl) | exact Or.inr rfl) rfl rfl)) (fun t6 => (g_name (i := 6) sc__law_draws.nd rfl (by first | exact Or.inl rfl | exact Or.inr (Or.inl rfl) | exact Or.inr (Or.inr rfl) | exact Or.inr rfl) (by decide))) (fun t6 z8 =>
(s_one (z_if (PW.pt (w_and (t_val (toV (e_fr (i := 3) rfl (by first | exact Or.inl rfl | exact Or.inr (Or.inl rfl) | exact Or.inr (Or.inr rfl) | exact Or.inr rfl) rfl rfl))) (w_and1 (y_cmp (o_gt hr) (toV (e_fr (i := 2) rfl (by first | exact Or.inl rfl | exact Or.inr (Or.inl rfl) | exact Or.inr (Or.inr rfl) | exact Or.inr rfl) rfl rfl)) (toV e_int) (nomark _)))))
(s_app (i := 5) rfl rfl (pe_bm PySem.F.plainAttrs_list PySem.F.slot_list_append PySem.F.type_list_append mt_append (pe_var (i := 5) rfl (by first | exact Or.inl rfl | exact Or.inr (Or.inl rfl) | exact Or.inr (Or.inr rfl) | exact Or.inr rfl) (by decide) (by decide)) (pa_cons (O_toE (x_bin o_mod (O_toV (e_t1 o_int (st_view _) (by rfl) B.n_int bt_int (toV (e_fr (i := 2) rfl (by first | exact Or.inl rfl | exact Or.inr (Or.inl rfl) | exact Or.inr (Or.inr rfl) | exact Or.inr rfl) rfl rfl)))) (toV e_int))) pa_nil)) (fun d9 =>
(s_asg sc__law_draws.nd (i := 2) rfl (by first | exact Or.inl rfl | exact Or.inr (Or.inl rfl) | exact Or.inr (Or.inr rfl) | exact Or.inr rfl) (by decide) (O_toE (x_bin o_fdiv (toV (e_fr (i := 2) rfl (by first | exact Or.inl rfl | exact Or.inr (Or.inl rfl) | exact Or.inr (Or.inr rfl) | exact Or.inr rfl) rfl rfl)) (toV e_int))) (fun d10 =>
(s_nil (env' := [PyData.none, a1, d10, d2, d3, d9, PyData.none, PyData.none]) (fun r h => ⟨(d10, d9), rfl, (Option.some.inj h).symm⟩) ⟨.inr rfl, .inl ⟨rfl, rfl⟩, .inl ⟨rfl, rfl⟩, .inl ⟨rfl, rfl⟩, .inl ⟨rfl, rfl⟩, .inl ⟨rfl, rfl⟩, .inr rfl, .inr rfl, trivial⟩)))))
(s_asg sc__law_draws.nd (i := 7) rfl (by first | exact Or.inl rfl | exact Or.inr (Or.inl rfl) | exact Or.inr (Or.inr rfl) | exact Or.inr rfl) (by decide) (O_toE (x_bin o_mod (O_toV (e_t1 o_int (st_view _) (by rfl) B.n_int bt_int (O_toV (x_bin o_add (O_toV (x_bin o_add (O_toV (x_bin o_mul (toV (e_fr (i := 4) rfl (by first | exact Or.inl rfl | exact Or.inr (Or.inl rfl) | exact Or.inr (Or.inr rfl) | exact Or.inr rfl) rfl rfl)) (toV e_int))) (O_toV (x_bin o_mul (O_toV (x_bin o_add (toV (e_fr (i := 6) rfl (by first | exact Or.inl rfl | exact Or.inr (Or.inl rfl) | exact Or.inr (Or.inr rfl) | exact Or.inr rfl) rfl rfl)) (toV e_int))) (toV e_int))))) (toV e_int))))) (toV e_int))) (fun d11 =>
(s_asg sc__law_draws.nd (i := 7) rfl (by first | exact Or.inl rfl | exact Or.inr (Or.inl rfl) | exact Or.inr (Or.inr rfl) | exact Or.inr rfl) (by decide) (O_toE (x_bin o_mod (O_toV (e_t1 o_int (st_view _) (by rfl) B.n_int bt_int (O_toV (x_bin o_add (O_toV (x_bin o_mul (toV (e_fr (i := 7) rfl (by first | exact Or.inl rfl | exact Or.inr (Or.inl rfl) | exact Or.inr (Or.inr rfl) | exact Or.inr rfl) rfl rfl)) (toV (e_fr (i := 7) rfl (by first | exact Or.inl rfl | exact Or.inr (Or.inl rfl) | exact Or.inr (Or.inr rfl) | exact Or.inr rfl) rfl rfl)))) (O_toV (x_bin o_mul (toV e_int) (O_toV (x_bin o_add (toV (e_fr (i := 6) rfl (by first | exact Or.inl rfl | exact Or.inr (Or.inl rfl) | exact Or.inr (Or.inr rfl) | exact Or.inr rfl) rfl rfl)) (toV e_int))))))))) (toV e_int))) (fun d12 =>
(s_app (i := 5) rfl rfl (pe_bm PySem.F.plainAttrs_list PySem.F.slot_list_append PySem.F.type_list_append mt_append (pe_var (i := 5) rfl (by first | exact Or.inl rfl | exact Or.inr (Or.inl rfl) | exact Or.inr (Or.inr rfl) | exact Or.inr rfl) (by decide) (by decide)) (pa_cons (O_toE (x_bin o_mod (O_toV (e_t1 o_int (st_view _) (by rfl) B.n_int bt_int (O_toV (x_bin o_fdiv (toV (e_fr (i := 7) rfl (by first | exact Or.inl rfl | exact Or.inr (Or.inl rfl) | exact Or.inr (Or.inr rfl) | exact Or.inr rfl) rfl rfl)) (toV e_int))))) (toV e_int))) pa_nil)) (fun d13 =>
(s_nil (env' := [PyData.none, a1, t6.1, d2, d3, d13, PyData.none, PyData.none]) (fun r h => ⟨(t6.1, d13), rfl, (Option.some.inj h).symm⟩) ⟨.inr rfl, .inl ⟨rfl, rfl⟩, .inl ⟨rfl, rfl⟩, .inl ⟨rfl, rfl⟩, .inl ⟨rfl, rfl⟩, .inl ⟨rfl, rfl⟩, .inr rfl, .inr rfl, trivial⟩))))))))))) (fun t7 =>
(s_frz 5 rfl rfl
(s_one (z_ret rfl (e_fr (i := 5) rfl (by first | exact Or.inl rfl | exact Or.inr (Or.inl rfl) | exact Or.inr (Or.inr rfl) | exact Or.inr rfl) rfl rfl) (by exact (fun d r h => Option.some.inj h)))))))))))))))
abbrev st__law_is_integer : Stmt := topS 7
theorem sc__law_is_integer : FnScope ["value"] ["value"] (defScope st__law_is_integer) := ⟨rfl, rfl, rfl, by decide +kernel, rfl, by decide +kernel, by decide +kernel⟩
theorem ok__law_is_integer {P : Program} {w : World} {K : PySem.W.Frag} {mg : Str → Option Value} {base : Heap} {f : Addr} {fd : FuncData} {tb : Addr → Prop} (F : Fun K "_law_is_integer" "_law_is_integer" st__law_is_integer f fd) (B : Bi mg) : FnOk P w K mg base CX0 1 f fd ["value"] (spD ⟨P, w, K, tb⟩ [.fr] .fr (ap1 m__law_is_integer)) := by
  refine f_ok F sc__law_is_integer rfl (by decide) fun cdv A outer s H E ds hr hd => ?_
  obtain ⟨a0, rfl⟩ := List.length_eq_one_iff.mp hd
  show PSs _ _ (tS _ [.fr] [a0] _ (m__law_is_integer a0))
  unfold m__law_is_integer
  exact (s_one (z_ret rfl (e_and (e_isi (by rfl) B.n_isinstance (by rfl) B.n_int bt_int (toV (e_fr (i := 0) rfl (by first | exact Or.inl rfl | exact Or.inr (Or.inl rfl) | exact Or.inr (Or.inr rfl) | exact Or.inr rfl) rfl rfl))) (e_and1 (x_not (e_isi (by rfl) B.n_isinstance (by rfl) B.n_bool bt_bool (toV (e_fr (i := 0) rfl (by first | exact Or.inl rfl | exact Or.inr (Or.inl rfl) | exact Or.inr (Or.inr rfl) | exact Or.inr rfl) rfl rfl)))))) (by exact (fun d r h => Option.some.inj h))))
abbrev st__law_is_run : Stmt := topS 8
theorem sc__law_is_run : FnScope ["value", "letter"] ["value"] (defScope st__law_is_run) := ⟨rfl, rfl, rfl, by decide +kernel, rfl, by decide +kernel, by decide +kernel⟩
theorem ok__law_is_run {P : Program} {w : World} {K : PySem.W.Frag} {mg : Str → Option Value} {base : Heap} {f : Addr} {fd : FuncData} {tb : Addr → Prop} (F : Fun K "_law_is_run" "_law_is_run" st__law_is_run f fd) (B : Bi mg) : FnOk P w K mg base CX0 1 f fd ["value"] (spD ⟨P, w, K, tb⟩ [.fr] .fr (ap1 m__law_is_run)) := by
  refine f_ok F sc__law_is_run rfl (by decide) fun cdv A outer s H E ds hr hd => ?_
  obtain ⟨a0, rfl⟩ := List.length_eq_one_iff.mp hd
  show PSs _ _ (tS _ [.fr, .un] [a0, PyData.none] _ (m__law_is_run a0))
  unfold m__law_is_run
  exact (s_one (z_ret rfl (e_and (e_isi (by rfl) B.n_isinstance (by rfl) B.n_str bt_str (toV (e_fr (i := 0) rfl (by first | exact Or.inl rfl | exact Or.inr (Or.inl rfl) | exact Or.inr (Or.inr rfl) | exact Or.inr rfl) rfl rfl))) (e_and1 (O_toE (e_b1 (o_all rfl) (st_view _) (by rfl) B.n_all bt_all (O_toV (x_lc [("letter", 1)] rfl sc__law_is_run.nd (i_any (e_fr (i := 0) rfl (by first | exact Or.inl rfl | exact Or.inr (Or.inl rfl) | exact Or.inr (Or.inr rfl) | exact Or.inr rfl) rfl rfl)) (blkOk_by (by rfl)) (by decide) (av (.inl rfl) av0) (fun _ _ _ _ _ => (g_name (i := 1) sc__law_is_run.nd rfl (by first | exact Or.inl rfl | exact Or.inr (Or.inl rfl) | exact Or.inr (Or.inr rfl) | exact Or.inr rfl) (by decide))) (fun _ _ _ _ _ => ts_nil) (fun _ _ _ _ _ z1 => (x_cmp (o_in hr) (toV (e_fr (i := 1) rfl (by first | exact Or.inl rfl | exact Or.inr (Or.inl rfl) | exact Or.inr (Or.inr rfl) | exact Or.inr rfl) rfl rfl)) (toV (e_str (by decide +kernel) (by decide +kernel))) (by rfl))))))))) (by exact (fun d r h => Option.some.inj h))))
abbrev st__law_letters : Stmt := topS 9
theorem sc__law_letters : FnScope ["draw", "count", "start", "step", "k"] ["draw", "count"] (defScope st__law_letters) := ⟨rfl, rfl, rfl, by decide +kernel, rfl, by decide +kernel, by decide +kernel⟩
theorem ok__law_letters {P : Program} {w : World} {K : PySem.W.Frag} {mg : Str → Option Value} {base : Heap} {f : Addr} {fd : FuncData} {tb : Addr → Prop} (F : Fun K "_law_letters" "_law_letters" st__law_letters f fd) (B : Bi mg) : FnOk P w K mg base CX0 1 f fd ["draw", "count"] (spD ⟨P, w, K, tb⟩ [.fr, .fr] .fr (ap2 m__law_letters)) := by
  refine f_ok F sc__law_letters rfl (by decide) fun cdv A outer s H E ds hr hd => ?_
  obtain ⟨a0, a1, rfl⟩ := len2 hd
  show PSs _ _ (tS _ [.fr, .fr, .un, .un, .un] [a0, a1, PyData.none, PyData.none, PyData.none] _ (m__law_letters a0 a1))
  unfold m__law_letters
  exact (s_asg sc__law_letters.nd (i := 2) rfl (by first | exact Or.inl rfl | exact Or.inr (Or.inl rfl) | exact Or.inr (Or.inr rfl) | exact Or.inr rfl) (by decide) (O_toE (x_bin o_mod (O_toV (e_t1 o_int (st_view _) (by rfl) B.n_int bt_int (toV (e_fr (i := 0) rfl (by first | exact Or.inl rfl | exact Or.inr (Or.inl rfl) | exact Or.inr (Or.inr rfl) | exact Or.inr rfl) rfl rfl)))) (toV e_int))) (fun d1 =>
(s_asg sc__law_letters.nd (i := 3) rfl (by first | exact Or.inl rfl | exact Or.inr (Or.inl rfl) | exact Or.inr (Or.inr rfl) | exact Or.inr rfl) (by decide) (O_toE (x_bin o_add (toV e_int) (O_toV (x_bin o_mod (O_toV (x_bin o_fdiv (O_toV (e_t1 o_int (st_view _) (by rfl) B.n_int bt_int (toV (e_fr (i := 0) rfl (by first | exact Or.inl rfl | exact Or.inr (Or.inl rfl) | exact Or.inr (Or.inr rfl) | exact Or.inr rfl) rfl rfl)))) (toV e_int))) (toV e_int))))) (fun d2 =>
(s_one (z_ret rfl (O_toE (e_b1 (o_sorted hr) (st_view _) (by rfl) B.n_sorted bt_sorted (O_toV (x_lc [("k", 4)] rfl sc__law_letters.nd (i_rng1 (by rfl) B.n_range (e_fr (i := 1) rfl (by first | exact Or.inl rfl | exact Or.inr (Or.inl rfl) | exact Or.inr (Or.inr rfl) | exact Or.inr rfl) rfl rfl)) (blkOk_by (by rfl)) (by decide) (av (.inl rfl) av0) (fun _ _ _ _ _ => (g_name (i := 4) sc__law_letters.nd rfl (by first | exact Or.inl rfl | exact Or.inr (Or.inl rfl) | exact Or.inr (Or.inr rfl) | exact Or.inr rfl) (by decide))) (fun _ _ _ _ _ => ts_nil) (fun _ _ _ _ _ z3 => (x_ix (toV (e_str (by decide +kernel) (by decide +kernel))) (O_toV (x_bin o_mod (O_toV (x_bin o_add (toV (e_fr (i := 2) rfl (by first | exact Or.inl rfl | exact Or.inr (Or.inl rfl) | exact Or.inr (Or.inr rfl) | exact Or.inr rfl) rfl rfl)) (O_toV (x_bin o_mul (toV (e_fr (i := 3) rfl (by first | exact Or.inl rfl | exact Or.inr (Or.inl rfl) | exact Or.inr (Or.inr rfl) | exact Or.inr rfl) rfl rfl)) (toV (e_fr (i := 4) rfl (by first | exact Or.inl rfl | exact Or.inr (Or.inl rfl) | exact Or.inr (Or.inr rfl) | exact Or.inr rfl) rfl rfl)))))) (toV e_int))))))))) (by exact (fun d r h => Option.some.inj h))))))))
abbrev st__law_word : Stmt := topS 10
theorem sc__law_word : FnScope ["draw", "letters", "longest", "size", "rest", "word", "k"] ["draw", "letters", "longest"] (defScope st__law_word) := ⟨rfl, rfl, rfl, by decide +kernel, rfl, by decide +kernel, by decide +kernel⟩
theorem ok__law_word {P : Program} {w : World} {K : PySem.W.Frag} {mg : Str → Option Value} {base : Heap} {f : Addr} {fd : FuncData} {tb : Addr → Prop} (F : Fun K "_law_word" "_law_word" st__law_word f fd) (B : Bi mg) : FnOk P w K mg base CX0 1 f fd ["draw", "letters", "longest"] (spD ⟨P, w, K, tb⟩ [.fr, .fr, .fr] .fr (ap3 m__law_word)) := by
  refine f_ok F sc__law_word rfl (by decide) fun cdv A outer s H E ds hr hd => ?_
  obtain ⟨a0, a1, a2, rfl⟩ := len3 hd
  show PSs _ _ (tS _ [.fr, .fr, .fr, .un, .un, .un, .un] [a0, a1, a2, PyData.none, PyData.none, PyData.none, PyData.none] _ (m__law_word a0 a1 a2))
  unfold m__law_word
  exact (s_asg sc__law_word.nd (i := 3) rfl (by first | exact Or.inl rfl | exact Or.inr (Or.inl rfl) | exact Or.inr (Or.inr rfl) | exact Or.inr rfl) (by decide) (O_toE (x_bin o_mod (O_toV (e_t1 o_int (st_view _) (by rfl) B.n_int bt_int (toV (e_fr (i := 0) rfl (by first | exact Or.inl rfl | exact Or.inr (Or.inl rfl) | exact Or.inr (Or.inr rfl) | exact Or.inr rfl) rfl rfl)))) (O_toV (x_bin o_add (toV (e_fr (i := 2) rfl (by first | exact Or.inl rfl | exact Or.inr (Or.inl rfl) | exact Or.inr (Or.inr rfl) | exact Or.inr rfl) rfl rfl)) (toV e_int))))) (fun d1 =>
(s_asg sc__law_word.nd (i := 4) rfl (by first | exact Or.inl rfl | exact Or.inr (Or.inl rfl) | exact Or.inr (Or.inr rfl) | exact Or.inr rfl) (by decide) (O_toE (x_bin o_fdiv (O_toV (e_t1 o_int (st_view _) (by rfl) B.n_int bt_int (toV (e_fr (i := 0) rfl (by first | exact Or.inl rfl | exact Or.inr (Or.inl rfl) | exact Or.inr (Or.inr rfl) | exact Or.inr rfl) rfl rfl)))) (O_toV (x_bin o_add (toV (e_fr (i := 2) rfl (by first | exact Or.inl rfl | exact Or.inr (Or.inl rfl) | exact Or.inr (Or.inr rfl) | exact Or.inr rfl) rfl rfl)) (toV e_int))))) (fun d2 =>
(s_asg sc__law_word.nd (i := 5) rfl (by first | exact Or.inl rfl | exact Or.inr (Or.inl rfl) | exact Or.inr (Or.inr rfl) | exact Or.inr rfl) (by decide) (e_str (by decide +kernel) (by decide +kernel)) (fun d3 =>
(s_jn (emb := fun (t6 : PyData × PyData) => [PyData.none, a1, PyData.none, d1, t6.1, t6.2, PyData.none]) (sh' := [.un, .fr, .un, .fr, .fr, .fr, .un]) (fun k4 => z_for (t0 := (d2, d3)) PassesOwn.never rfl ⟨.inr rfl, .inl ⟨rfl, rfl⟩, .inr rfl, .inl ⟨rfl, rfl⟩, .inl ⟨rfl, rfl⟩, .inl ⟨rfl, rfl⟩, .inr rfl, trivial⟩ (i_rng1 (by rfl) B.n_range (e_fr (i := 3) rfl (by first | exact Or.inl rfl | exact Or.inr (Or.inl rfl) | exact Or.inr (Or.inr rfl) | exact Or.inr rfl) rfl rfl)) (fun t5 => (g_name (i := 6) sc__law_word.nd rfl (by first | exact Or.inl rfl | exact Or.inr (Or.inl rfl) | exact Or.inr (Or.inr rfl) | exact Or.inr rfl) (by decide))) (fun t5 z7 =>
(s_asg sc__law_word.nd (i := 5) rfl (by first | exact Or.inl rfl | exact Or.inr (Or.inl rfl) | exact Or.inr (Or.inr rfl) | exact Or.inr rfl) (by decide) (O_toE (x_bin o_add (toV (e_fr (i := 5) rfl (by first | exact Or.inl rfl | exact Or.inr (Or.inl rfl) | exact Or.inr (Or.inr rfl) | exact Or.inr rfl) rfl rfl)) (toV (x_ix (toV (e_fr (i := 1) rfl (by first | exact Or.inl rfl | exact Or.inr (Or.inl rfl) | exact Or.inr (Or.inr rfl) | exact Or.inr rfl) rfl rfl)) (O_toV (x_bin o_mod (O_toV (e_t1 o_int (st_view _) (by rfl) B.n_int bt_int (toV (e_fr (i := 4) rfl (by first | exact Or.inl rfl | exact Or.inr (Or.inl rfl) | exact Or.inr (Or.inr rfl) | exact Or.inr rfl) rfl rfl)))) (O_toV (e_b1 o_len (st_view _) (by rfl) B.n_len bt_len (toV (e_fr (i := 1) rfl (by first | exact Or.inl rfl | exact Or.inr (Or.inl rfl) | exact Or.inr (Or.inr rfl) | exact Or.inr rfl) rfl rfl)))))))))) (fun d8 =>
(s_asg sc__law_word.nd (i := 4) rfl (by first | exact Or.inl rfl | exact Or.inr (Or.inl rfl) | exact Or.inr (Or.inr rfl) | exact Or.inr rfl) (by decide) (O_toE (x_bin o_add (O_toV (x_bin o_fdiv (toV (e_fr (i := 4) rfl (by first | exact Or.inl rfl | exact Or.inr (Or.inl rfl) | exact Or.inr (Or.inr rfl) | exact Or.inr rfl) rfl rfl)) (O_toV (e_b1 o_len (st_view _) (by rfl) B.n_len bt_len (toV (e_fr (i := 1) rfl (by first | exact Or.inl rfl | exact Or.inr (Or.inl rfl) | exact Or.inr (Or.inr rfl) | exact Or.inr rfl) rfl rfl)))))) (O_toV (x_bin o_mul (toV e_int) (O_toV (x_bin o_add (toV (e_fr (i := 6) rfl (by first | exact Or.inl rfl | exact Or.inr (Or.inl rfl) | exact Or.inr (Or.inr rfl) | exact Or.inr rfl) rfl rfl)) (toV e_int))))))) (fun d9 =>
(s_nil (env' := [PyData.none, a1, PyData.none, d1, d9, d8, PyData.none]) (fun r h => ⟨(d9, d8), rfl, (Option.some.inj h).symm⟩) ⟨.inr rfl, .inl ⟨rfl, rfl⟩, .inr rfl, .inl ⟨rfl, rfl⟩, .inl ⟨rfl, rfl⟩, .inl ⟨rfl, rfl⟩, .inr rfl, trivial⟩))))))) (fun t6 =>
(s_one (z_ret rfl (e_fr (i := 5) rfl (by first | exact Or.inl rfl | exact Or.inr (Or.inl rfl) | exact Or.inr (Or.inr rfl) | exact Or.inr rfl) rfl rfl) (by exact (fun d r h => Option.some.inj h))))))))))))
abbrev st__law_runs : Stmt := topS 11
theorem sc__law_runs : FnScope ["cell", "letters", "count", "longest", "draws", "parts", "runs", "r", "draw", "run", "middle", "k"] ["cell", "letters", "count", "longest"] (defScope st__law_runs) := ⟨rfl, rfl, rfl, by decide +kernel, rfl, by decide +kernel, by decide +kernel⟩
theorem ok__law_runs {P : Program} {w : World} {K : PySem.W.Frag} {mg : Str → Option Value} {base : Heap} {f : Addr} {fd : FuncData} {tb : Addr → Prop} (F : Fun K "_law_runs" "_law_runs" st__law_runs f fd) (B : Bi mg) (C__law_draws : CallOk ⟨P, w, K, tb⟩ mg base "_law_draws" 1 [.fr, .fr] .fr (ap2 m__law_draws)) (C__law_word : CallOk ⟨P, w, K, tb⟩ mg base "_law_word" 1 [.fr, .fr, .fr] .fr (ap3 m__law_word)) : FnOk P w K mg base CX0 2 f fd ["cell", "letters", "count", "longest"] (spD ⟨P, w, K, tb⟩ [.fr, .fr, .fr, .fr] .fr (ap4 m__law_runs)) := by
  refine f_ok F sc__law_runs rfl (by decide) fun cdv A outer s H E ds hr hd => ?_
  obtain ⟨a0, a1, a2, a3, rfl⟩ := len4 hd
  show PSs _ _ (tS _ [.fr, .fr, .fr, .fr, .un, .un, .un, .un, .un, .un, .un, .un] [a0, a1, a2, a3, PyData.none, PyData.none, PyData.none, PyData.none, PyData.none, PyData.none, PyData.none, PyData.none] _ (m__law_runs a0 a1 a2 a3))
  unfold m__law_runs
  exact (s_asg sc__law_runs.nd (i := 4) rfl (by first | exact Or.inl rfl | exact Or.inr (Or.inl rfl) | exact Or.inr (Or.inr rfl) | exact Or.inr rfl) (by decide) (O_toE (e_call C__law_draws hr (by decide) (by rfl) (a_cons (st_rep _) (e_fr (i := 0) rfl (by first | exact Or.inl rfl | exact Or.inr (Or.inl rfl) | exact Or.inr (Or.inr rfl) | exact Or.inr rfl) rfl rfl) (a_cons (st_rep _) (O_toE (x_bin o_add (toV e_int) (O_toV (x_bin o_mul (toV e_int) (toV (e_fr (i := 2) rfl (by first | exact Or.inl rfl | exact Or.inr (Or.inl rfl) | exact Or.inr (Or.inr rfl) | exact Or.inr rfl) rfl rfl)))))) a_nil)) rfl)) (fun d1 =>
(z_lcO [("k", 11)] rfl sc__law_runs.nd (i := 5) rfl rfl (by decide) (by rfl) (i_rng1 (by rfl) B.n_range e_int) (blkOk_by (by rfl)) (by decide) (av (.inl rfl) av0) (fun _ _ _ _ _ => (g_name (i := 11) sc__law_runs.nd rfl (by first | exact Or.inl rfl | exact Or.inr (Or.inl rfl) | exact Or.inr (Or.inr rfl) | exact Or.inr rfl) (by decide))) (fun _ _ _ _ _ => ts_nil) (fun _ _ _ _ _ z3 => (O_toE (e_call C__law_word hr (by decide) (by rfl) (a_cons (st_rep _) (x_ix (toV (e_fr (i := 4) rfl (by first | exact Or.inl rfl | exact Or.inr (Or.inl rfl) | exact Or.inr (Or.inr rfl) | exact Or.inr rfl) rfl rfl)) (O_toV (x_bin o_add (toV e_int) (toV (e_fr (i := 11) rfl (by first | exact Or.inl rfl | exact Or.inr (Or.inl rfl) | exact Or.inr (Or.inr rfl) | exact Or.inr rfl) rfl rfl))))) (a_cons (st_rep _) (e_fr (i := 1) rfl (by first | exact Or.inl rfl | exact Or.inr (Or.inl rfl) | exact Or.inr (Or.inr rfl) | exact Or.inr rfl) rfl rfl) (a_cons (st_rep _) e_int a_nil))) rfl))) (fun d2 =>
(s_frz 5 rfl rfl
(s_own (T := .any) sc__law_runs.nd (i := 6) rfl (by first | exact Or.inl rfl | exact Or.inr (Or.inl rfl) | exact Or.inr (Or.inr rfl) | exact Or.inr rfl) (by decide) (x_lst a_nil hp0 (by decide) rfl) (fun d4 =>
(s_jn (emb := fun (t7 : PyData) => [PyData.none, a1, a2, a3, d1, d2, t7, PyData.none, PyData.none, PyData.none, PyData.none, PyData.none]) (sh' := [.un, .fr, .fr, .fr, .fr, .fr, .ow .any, .un, .un, .un, .un, .un]) (fun k5 => z_for (t0 := d4) PassesOwn.never rfl ⟨.inr rfl, .inl ⟨rfl, rfl⟩, .inl ⟨rfl, rfl⟩, .inl ⟨rfl, rfl⟩, .inl ⟨rfl, rfl⟩, .inl ⟨rfl, rfl⟩, .inl ⟨rfl, rfl⟩, .inr rfl, .inr rfl, .inr rfl, .inr rfl, .inr rfl, trivial⟩ (i_rng1 (by rfl) B.n_range (O_toE (x_bin o_mod (toV (x_ix (toV (e_fr (i := 4) rfl (by first | exact Or.inl rfl | exact Or.inr (Or.inl rfl) | exact Or.inr (Or.inr rfl) | exact Or.inr rfl) rfl rfl)) (toV e_int))) (O_toV (x_bin o_add (toV (e_fr (i := 2) rfl (by first | exact Or.inl rfl | exact Or.inr (Or.inl rfl) | exact Or.inr (Or.inr rfl) | exact Or.inr rfl) rfl rfl)) (toV e_int)))))) (fun t6 => (g_name (i := 7) sc__law_runs.nd rfl (by first | exact Or.inl rfl | exact Or.inr (Or.inl rfl) | exact Or.inr (Or.inr rfl) | exact Or.inr rfl) (by decide))) (fun t6 z8 =>
(s_asg sc__law_runs.nd (i := 8) rfl (by first | exact Or.inl rfl | exact Or.inr (Or.inl rfl) | exact Or.inr (Or.inr rfl) | exact Or.inr rfl) (by decide) (x_ix (toV (e_fr (i := 4) rfl (by first | exact Or.inl rfl | exact Or.inr (Or.inl rfl) | exact Or.inr (Or.inr rfl) | exact Or.inr rfl) rfl rfl)) (O_toV (x_bin o_add (toV e_int) (O_toV (x_bin o_mul (toV e_int) (toV (e_fr (i := 7) rfl (by first | exact Or.inl rfl | exact Or.inr (Or.inl rfl) | exact Or.inr (Or.inr rfl) | exact Or.inr rfl) rfl rfl))))))) (fun d9 =>
(s_jn (emb := fun (t11 : PyData) => [PyData.none, a1, a2, a3, d1, d2, t6, PyData.none, PyData.none, t11, PyData.none, PyData.none]) (sh' := [.un, .fr, .fr, .fr, .fr, .fr, .ow .any, .un, .un, .fr, .un, .un]) (fun k10 => z_if (y_cmp (o_eq hr) (O_toV (x_bin o_mod (toV (e_fr (i := 8) rfl (by first | exact Or.inl rfl | exact Or.inr (Or.inl rfl) | exact Or.inr (Or.inr rfl) | exact Or.inr rfl) rfl rfl)) (toV e_int))) (toV e_int) (nomark _))
(s_asg sc__law_runs.nd (i := 9) rfl (by first | exact Or.inl rfl | exact Or.inr (Or.inl rfl) | exact Or.inr (Or.inr rfl) | exact Or.inr rfl) (by decide) (O_toE (e_call C__law_word hr (by decide) (by rfl) (a_cons (st_rep _) (x_ix (toV (e_fr (i := 4) rfl (by first | exact Or.inl rfl | exact Or.inr (Or.inl rfl) | exact Or.inr (Or.inr rfl) | exact Or.inr rfl) rfl rfl)) (O_toV (x_bin o_add (toV e_int) (O_toV (x_bin o_mul (toV e_int) (toV (e_fr (i := 7) rfl (by first | exact Or.inl rfl | exact Or.inr (Or.inl rfl) | exact Or.inr (Or.inr rfl) | exact Or.inr rfl) rfl rfl))))))) (a_cons (st_rep _) (e_fr (i := 1) rfl (by first | exact Or.inl rfl | exact Or.inr (Or.inl rfl) | exact Or.inr (Or.inr rfl) | exact Or.inr rfl) rfl rfl) (a_cons (st_rep _) (e_fr (i := 3) rfl (by first | exact Or.inl rfl | exact Or.inr (Or.inl rfl) | exact Or.inr (Or.inr rfl) | exact Or.inr rfl) rfl rfl) a_nil))) rfl)) (fun d12 =>
(s_nil (env' := [PyData.none, a1, a2, a3, d1, d2, t6, PyData.none, PyData.none, d12, PyData.none, PyData.none]) (fun r h => ⟨d12, rfl, h⟩) ⟨.inr rfl, .inl ⟨rfl, rfl⟩, .inl ⟨rfl, rfl⟩, .inl ⟨rfl, rfl⟩, .inl ⟨rfl, rfl⟩, .inl ⟨rfl, rfl⟩, .inl ⟨rfl, rfl⟩, .inr rfl, .inr rfl, .inl ⟨rfl, rfl⟩, .inr rfl, .inr rfl, trivial⟩)))
(s_one (z_if (y_cmp (o_eq hr) (O_toV (x_bin o_mod (toV (e_fr (i := 8) rfl (by first | exact Or.inl rfl | exact Or.inr (Or.inl rfl) | exact Or.inr (Or.inr rfl) | exact Or.inr rfl) rfl rfl)) (toV e_int))) (toV e_int) (nomark _))
(s_asg sc__law_runs.nd (i := 10) rfl (by first | exact Or.inl rfl | exact Or.inr (Or.inl rfl) | exact Or.inr (Or.inr rfl) | exact Or.inr rfl) (by decide) (x_ix (toV (e_fr (i := 5) rfl (by first | exact Or.inl rfl | exact Or.inr (Or.inl rfl) | exact Or.inr (Or.inr rfl) | exact Or.inr rfl) rfl rfl)) (O_toV (x_bin o_mod (toV (x_ix (toV (e_fr (i := 4) rfl (by first | exact Or.inl rfl | exact Or.inr (Or.inl rfl) | exact Or.inr (Or.inr rfl) | exact Or.inr rfl) rfl rfl)) (O_toV (x_bin o_add (toV e_int) (O_toV (x_bin o_mul (toV e_int) (toV (e_fr (i := 7) rfl (by first | exact Or.inl rfl | exact Or.inr (Or.inl rfl) | exact Or.inr (Or.inr rfl) | exact Or.inr rfl) rfl rfl)))))))) (toV e_int)))) (fun d13 =>
(s_asg sc__law_runs.nd (i := 9) rfl (by first | exact Or.inl rfl | exact Or.inr (Or.inl rfl) | exact Or.inr (Or.inr rfl) | exact Or.inr rfl) (by decide) (O_toE (x_bin o_add (O_toV (x_bin o_add (toV (x_ix (toV (e_fr (i := 5) rfl (by first | exact Or.inl rfl | exact Or.inr (Or.inl rfl) | exact Or.inr (Or.inr rfl) | exact Or.inr rfl) rfl rfl)) (O_toV (x_bin o_mod (toV (x_ix (toV (e_fr (i := 4) rfl (by first | exact Or.inl rfl | exact Or.inr (Or.inl rfl) | exact Or.inr (Or.inr rfl) | exact Or.inr rfl) rfl rfl)) (O_toV (x_bin o_add (toV e_int) (O_toV (x_bin o_mul (toV e_int) (toV (e_fr (i := 7) rfl (by first | exact Or.inl rfl | exact Or.inr (Or.inl rfl) | exact Or.inr (Or.inr rfl) | exact Or.inr rfl) rfl rfl)))))))) (toV e_int))))) (O_toV (x_bin o_mul (toV (e_fr (i := 10) rfl (by first | exact Or.inl rfl | exact Or.inr (Or.inl rfl) | exact Or.inr (Or.inr rfl) | exact Or.inr rfl) rfl rfl)) (O_toV (x_bin o_mod (toV (x_ix (toV (e_fr (i := 4) rfl (by first | exact Or.inl rfl | exact Or.inr (Or.inl rfl) | exact Or.inr (Or.inr rfl) | exact Or.inr rfl) rfl rfl)) (O_toV (x_bin o_add (toV e_int) (O_toV (x_bin o_mul (toV e_int) (toV (e_fr (i := 7) rfl (by first | exact Or.inl rfl | exact Or.inr (Or.inl rfl) | exact Or.inr (Or.inr rfl) | exact Or.inr rfl) rfl rfl)))))))) (toV e_int))))))) (toV (x_ix (toV (e_fr (i := 5) rfl (by first | exact Or.inl rfl | exact Or.inr (Or.inl rfl) | exact Or.inr (Or.inr rfl) | exact Or.inr rfl) rfl rfl)) (O_toV (x_bin o_mod (O_toV (x_bin o_fdiv (toV (x_ix (toV (e_fr (i := 4) rfl (by first | exact Or.inl rfl | exact Or.inr (Or.inl rfl) | exact Or.inr (Or.inr rfl) | exact Or.inr rfl) rfl rfl)) (O_toV (x_bin o_add (toV e_int) (O_toV (x_bin o_mul (toV e_int) (toV (e_fr (i := 7) rfl (by first | exact Or.inl rfl | exact Or.inr (Or.inl rfl) | exact Or.inr (Or.inr rfl) | exact Or.inr rfl) rfl rfl)))))))) (toV e_int))) (toV e_int))))))) (fun d14 =>
(s_nil (env' := [PyData.none, a1, a2, a3, d1, d2, t6, PyData.none, PyData.none, d14, PyData.none, PyData.none]) (fun r h => ⟨d14, rfl, h⟩) ⟨.inr rfl, .inl ⟨rfl, rfl⟩, .inl ⟨rfl, rfl⟩, .inl ⟨rfl, rfl⟩, .inl ⟨rfl, rfl⟩, .inl ⟨rfl, rfl⟩, .inl ⟨rfl, rfl⟩, .inr rfl, .inr rfl, .inl ⟨rfl, rfl⟩, .inr rfl, .inr rfl, trivial⟩)))))
(s_asg sc__law_runs.nd (i := 9) rfl (by first | exact Or.inl rfl | exact Or.inr (Or.inl rfl) | exact Or.inr (Or.inr rfl) | exact Or.inr rfl) (by decide) (O_toE (x_bin o_add (O_toV (x_bin o_add (toV (x_ix (toV (e_fr (i := 5) rfl (by first | exact Or.inl rfl | exact Or.inr (Or.inl rfl) | exact Or.inr (Or.inr rfl) | exact Or.inr rfl) rfl rfl)) (O_toV (x_bin o_mod (toV (x_ix (toV (e_fr (i := 4) rfl (by first | exact Or.inl rfl | exact Or.inr (Or.inl rfl) | exact Or.inr (Or.inr rfl) | exact Or.inr rfl) rfl rfl)) (O_toV (x_bin o_add (toV e_int) (O_toV (x_bin o_mul (toV e_int) (toV (e_fr (i := 7) rfl (by first | exact Or.inl rfl | exact Or.inr (Or.inl rfl) | exact Or.inr (Or.inr rfl) | exact Or.inr rfl) rfl rfl)))))))) (toV e_int))))) (toV (O_toE (e_call C__law_word hr (by decide) (by rfl) (a_cons (st_rep _) (x_ix (toV (e_fr (i := 4) rfl (by first | exact Or.inl rfl | exact Or.inr (Or.inl rfl) | exact Or.inr (Or.inr rfl) | exact Or.inr rfl) rfl rfl)) (O_toV (x_bin o_add (toV e_int) (O_toV (x_bin o_mul (toV e_int) (toV (e_fr (i := 7) rfl (by first | exact Or.inl rfl | exact Or.inr (Or.inl rfl) | exact Or.inr (Or.inr rfl) | exact Or.inr rfl) rfl rfl))))))) (a_cons (st_rep _) (e_fr (i := 1) rfl (by first | exact Or.inl rfl | exact Or.inr (Or.inl rfl) | exact Or.inr (Or.inr rfl) | exact Or.inr rfl) rfl rfl) (a_cons (st_rep _) e_int a_nil))) rfl))))) (toV (x_ix (toV (e_fr (i := 5) rfl (by first | exact Or.inl rfl | exact Or.inr (Or.inl rfl) | exact Or.inr (Or.inr rfl) | exact Or.inr rfl) rfl rfl)) (O_toV (x_bin o_mod (toV (x_ix (toV (e_fr (i := 4) rfl (by first | exact Or.inl rfl | exact Or.inr (Or.inl rfl) | exact Or.inr (Or.inr rfl) | exact Or.inr rfl) rfl rfl)) (O_toV (x_bin o_add (toV e_int) (O_toV (x_bin o_mul (toV e_int) (toV (e_fr (i := 7) rfl (by first | exact Or.inl rfl | exact Or.inr (Or.inl rfl) | exact Or.inr (Or.inr rfl) | exact Or.inr rfl) rfl rfl)))))))) (toV e_int))))))) (fun d15 =>
(s_nil (env' := [PyData.none, a1, a2, a3, d1, d2, t6, PyData.none, PyData.none, d15, PyData.none, PyData.none]) (fun r h => ⟨d15, rfl, h⟩) ⟨.inr rfl, .inl ⟨rfl, rfl⟩, .inl ⟨rfl, rfl⟩, .inl ⟨rfl, rfl⟩, .inl ⟨rfl, rfl⟩, .inl ⟨rfl, rfl⟩, .inl ⟨rfl, rfl⟩, .inr rfl, .inr rfl, .inl ⟨rfl, rfl⟩, .inr rfl, .inr rfl, trivial⟩)))))) (fun t11 =>
(s_app (i := 6) rfl rfl (pe_bm PySem.F.plainAttrs_list PySem.F.slot_list_append PySem.F.type_list_append mt_append (pe_var (i := 6) rfl (by first | exact Or.inl rfl | exact Or.inr (Or.inl rfl) | exact Or.inr (Or.inr rfl) | exact Or.inr rfl) (by decide) (by decide)) (pa_cons (O_toE (x_sl (toV (e_fr (i := 9) rfl (by first | exact Or.inl rfl | exact Or.inr (Or.inl rfl) | exact Or.inr (Or.inr rfl) | exact Or.inr rfl) rfl rfl)) p_none (x_some (e_fr (i := 3) rfl (by first | exact Or.inl rfl | exact Or.inr (Or.inl rfl) | exact Or.inr (Or.inr rfl) | exact Or.inr rfl) rfl rfl)))) pa_nil)) (fun d16 =>
(s_nil (env' := [PyData.none, a1, a2, a3, d1, d2, d16, PyData.none, PyData.none, PyData.none, PyData.none, PyData.none]) (fun r h => ⟨d16, rfl, (Option.some.inj h).symm⟩) ⟨.inr rfl, .inl ⟨rfl, rfl⟩, .inl ⟨rfl, rfl⟩, .inl ⟨rfl, rfl⟩, .inl ⟨rfl, rfl⟩, .inl ⟨rfl, rfl⟩, .inl ⟨rfl, rfl⟩, .inr rfl, .inr rfl, .inr rfl, .inr rfl, .inr rfl, trivial⟩))))))))) (fun t7 =>
(s_one (z_ret rfl (O_toE (e_t1 o_tup (st_view _) (by rfl) B.n_tuple bt_tuple (e_ow (i := 6) rfl (by first | exact Or.inl rfl | exact Or.inr (Or.inl rfl) | exact Or.inr (Or.inr rfl) | exact Or.inr rfl) rfl rfl))) (by exact (fun d r h => Option.some.inj h)))))))))))))
abbrev st__law_derives : Stmt := topS 12
theorem sc__law_derives : FnScope ["runs", "k", "lines", "run", "known", "line", "i", "j", "h", "m", "n", "number"] ["runs", "k", "lines", "run"] (defScope st__law_derives) := ⟨rfl, rfl, rfl, by decide +kernel, rfl, by decide +kernel, by decide +kernel⟩
theorem ok__law_derives {P : Program} {w : World} {K : PySem.W.Frag} {mg : Str → Option Value} {base : Heap} {f : Addr} {fd : FuncData} {tb : Addr → Prop} (F : Fun K "_law_derives" "_law_derives" st__law_derives f fd) (B : Bi mg) (C__law_is_integer : CallOk ⟨P, w, K, tb⟩ mg base "_law_is_integer" 1 [.fr] .fr (ap1 m__law_is_integer)) (C__law_is_run : CallOk ⟨P, w, K, tb⟩ mg base "_law_is_run" 1 [.fr] .fr (ap1 m__law_is_run)) : FnOk P w K mg base CX0 2 f fd ["runs", "k", "lines", "run"] (spD ⟨P, w, K, tb⟩ [.fr, .fr, .fr, .fr] .fr (ap4 m__law_derives)) := by
  refine f_ok F sc__law_derives rfl (by decide) fun cdv A outer s H E ds hr hd => ?_
  obtain ⟨a0, a1, a2, a3, rfl⟩ := len4 hd
  show PSs _ _ (tS _ [.fr, .fr, .fr, .fr, .un, .un, .un, .un, .un, .un, .un, .un] [a0, a1, a2, a3, PyData.none, PyData.none, PyData.none, PyData.none, PyData.none, PyData.none, PyData.none, PyData.none] _ (m__law_derives a0 a1 a2 a3))
  unfold m__law_derives
  exact (s_jn (emb := fun (t2 : Unit) => [a0, a1, a2, a3, PyData.none, PyData.none, PyData.none, PyData.none, PyData.none, PyData.none, PyData.none, PyData.none]) (sh' := [.fr, .fr, .fr, .fr, .un, .un, .un, .un, .un, .un, .un, .un]) (fun k1 => z_if (PW.pt (w_or (y_not (t_val (toV (e_isi (by rfl) B.n_isinstance (by rfl) B.n_tuple bt_tuple (toV (e_fr (i := 2) rfl (by first | exact Or.inl rfl | exact Or.inr (Or.inl rfl) | exact Or.inr (Or.inr rfl) | exact Or.inr rfl) rfl rfl)))))) (w_or1 (y_cmp (o_eq hr) (O_toV (e_b1 o_len (st_view _) (by rfl) B.n_len bt_len (toV (e_fr (i := 2) rfl (by first | exact Or.inl rfl | exact Or.inr (Or.inl rfl) | exact Or.inr (Or.inr rfl) | exact Or.inr rfl) rfl rfl)))) (toV e_int) (nomark _)))))
(s_one (z_ret rfl e_bl (by exact (fun d r h => Option.some.inj h))))
(s_nil (env' := [a0, a1, a2, a3, PyData.none, PyData.none, PyData.none, PyData.none, PyData.none, PyData.none, PyData.none, PyData.none]) (fun r h => ⟨(), rfl, h⟩) ⟨.inl ⟨rfl, rfl⟩, .inl ⟨rfl, rfl⟩, .inl ⟨rfl, rfl⟩, .inl ⟨rfl, rfl⟩, .inr rfl, .inr rfl, .inr rfl, .inr rfl, .inr rfl, .inr rfl, .inr rfl, .inr rfl, trivial⟩)) (fun t2 =>
(s_own (T := .any) sc__law_derives.nd (i := 4) rfl (by first | exact Or.inl rfl | exact Or.inr (Or.inl rfl) | exact Or.inr (Or.inr rfl) | exact Or.inr rfl) (by decide) (x_lst a_nil hp0 (by decide) rfl) (fun d3 =>
(s_jn (emb := fun (t6 : PyData) => [a0, a1, a2, a3, t6, PyData.none, PyData.none, PyData.none, PyData.none, PyData.none, PyData.none, PyData.none]) (sh' := [.fr, .fr, .fr, .fr, .ow .any, .un, .un, .un, .un, .un, .un, .un]) (fun k4 => z_for (t0 := d3) PassesOwn.never rfl ⟨.inl ⟨rfl, rfl⟩, .inl ⟨rfl, rfl⟩, .inl ⟨rfl, rfl⟩, .inl ⟨rfl, rfl⟩, .inl ⟨rfl, rfl⟩, .inr rfl, .inr rfl, .inr rfl, .inr rfl, .inr rfl, .inr rfl, .inr rfl, trivial⟩ (i_any (e_fr (i := 2) rfl (by first | exact Or.inl rfl | exact Or.inr (Or.inl rfl) | exact Or.inr (Or.inr rfl) | exact Or.inr rfl) rfl rfl)) (fun t5 => (g_name (i := 5) sc__law_derives.nd rfl (by first | exact Or.inl rfl | exact Or.inr (Or.inl rfl) | exact Or.inr (Or.inr rfl) | exact Or.inr rfl) (by decide))) (fun t5 z7 =>
(s_jn (emb := fun (t9 : Unit) => [a0, a1, a2, a3, t5, z7, PyData.none, PyData.none, PyData.none, PyData.none, PyData.none, PyData.none]) (sh' := [.fr, .fr, .fr, .fr, .ow .any, .fr, .un, .un, .un, .un, .un, .un]) (fun k8 => z_if (PW.pt (w_or (y_not (t_val (toV (e_isi (by rfl) B.n_isinstance (by rfl) B.n_tuple bt_tuple (toV (e_fr (i := 5) rfl (by first | exact Or.inl rfl | exact Or.inr (Or.inl rfl) | exact Or.inr (Or.inr rfl) | exact Or.inr rfl) rfl rfl)))))) (w_or (y_cmp (o_ne hr) (O_toV (e_b1 o_len (st_view _) (by rfl) B.n_len bt_len (toV (e_fr (i := 5) rfl (by first | exact Or.inl rfl | exact Or.inr (Or.inl rfl) | exact Or.inr (Or.inr rfl) | exact Or.inr rfl) rfl rfl)))) (toV e_int) (nomark _)) (w_or (y_not (t_val (toV (O_toE (e_call C__law_is_run hr (by decide) (by rfl) (a_cons (st_rep _) (x_ix (toV (e_fr (i := 5) rfl (by first | exact Or.inl rfl | exact Or.inr (Or.inl rfl) | exact Or.inr (Or.inr rfl) | exact Or.inr rfl) rfl rfl)) (toV e_int)) a_nil) rfl))))) (w_or1 (y_not (t_val (toV (e_isi (by rfl) B.n_isinstance (by rfl) B.n_tuple bt_tuple (toV (x_ix (toV (e_fr (i := 5) rfl (by first | exact Or.inl rfl | exact Or.inr (Or.inl rfl) | exact Or.inr (Or.inr rfl) | exact Or.inr rfl) rfl rfl)) (toV e_int))))))))))))
(s_one (z_ret rfl e_bl (by exact (fun d r h => ⟨d, rfl, (Option.some.inj h).symm⟩))))
(s_nil (env' := [a0, a1, a2, a3, t5, z7, PyData.none, PyData.none, PyData.none, PyData.none, PyData.none, PyData.none]) (fun r h => ⟨(), rfl, h⟩) ⟨.inl ⟨rfl, rfl⟩, .inl ⟨rfl, rfl⟩, .inl ⟨rfl, rfl⟩, .inl ⟨rfl, rfl⟩, .inl ⟨rfl, rfl⟩, .inl ⟨rfl, rfl⟩, .inr rfl, .inr rfl, .inr rfl, .inr rfl, .inr rfl, .inr rfl, trivial⟩)) (fun t9 =>
(s_jn (emb := fun (t11 : Unit) => [a0, a1, a2, a3, t5, z7, PyData.none, PyData.none, PyData.none, PyData.none, PyData.none, PyData.none]) (sh' := [.fr, .fr, .fr, .fr, .ow .any, .fr, .un, .un, .un, .un, .un, .un]) (fun k10 => z_if (y_cmp (o_eq hr) (toV (x_ix (toV (e_fr (i := 5) rfl (by first | exact Or.inl rfl | exact Or.inr (Or.inl rfl) | exact Or.inr (Or.inr rfl) | exact Or.inr rfl) rfl rfl)) (toV e_int))) (toV (x_tup a_nil hp0 (by decide) rfl)) (nomark _))
(s_one (z_if (y_cmp (o_notin hr) (toV (x_ix (toV (e_fr (i := 5) rfl (by first | exact Or.inl rfl | exact Or.inr (Or.inl rfl) | exact Or.inr (Or.inr rfl) | exact Or.inr rfl) rfl rfl)) (toV e_int))) (toV (e_fr (i := 0) rfl (by first | exact Or.inl rfl | exact Or.inr (Or.inl rfl) | exact Or.inr (Or.inr rfl) | exact Or.inr rfl) rfl rfl)) (by rfl))
(s_one (z_ret rfl e_bl (by exact (fun d r h => ⟨d, rfl, (Option.some.inj h).symm⟩))))
(s_nil (env' := [a0, a1, a2, a3, t5, z7, PyData.none, PyData.none, PyData.none, PyData.none, PyData.none, PyData.none]) (fun r h => ⟨(), rfl, h⟩) ⟨.inl ⟨rfl, rfl⟩, .inl ⟨rfl, rfl⟩, .inl ⟨rfl, rfl⟩, .inl ⟨rfl, rfl⟩, .inl ⟨rfl, rfl⟩, .inl ⟨rfl, rfl⟩, .inr rfl, .inr rfl, .inr rfl, .inr rfl, .inr rfl, .inr rfl, trivial⟩)))
(s_jn (emb := fun (t14 : Unit) => [a0, a1, a2, a3, t5, z7, PyData.none, PyData.none, PyData.none, PyData.none, PyData.none, PyData.none]) (sh' := [.fr, .fr, .fr, .fr, .ow .any, .fr, .un, .un, .un, .un, .un, .un]) (fun k13 => z_if (PW.pt (w_or (y_cmp (o_ne hr) (O_toV (e_b1 o_len (st_view _) (by rfl) B.n_len bt_len (toV (x_ix (toV (e_fr (i := 5) rfl (by first | exact Or.inl rfl | exact Or.inr (Or.inl rfl) | exact Or.inr (Or.inr rfl) | exact Or.inr rfl) rfl rfl)) (toV e_int))))) (toV e_int) (nomark _)) (w_or1 (y_not (t_val (O_toV (e_b1 (o_all rfl) (st_view _) (by rfl) B.n_all bt_all (O_toV (x_lc [("number", 11)] rfl sc__law_derives.nd (i_any (x_ix (toV (e_fr (i := 5) rfl (by first | exact Or.inl rfl | exact Or.inr (Or.inl rfl) | exact Or.inr (Or.inr rfl) | exact Or.inr rfl) rfl rfl)) (toV e_int))) (blkOk_by (by rfl)) (by decide) (av (.inl rfl) av0) (fun _ _ _ _ _ => (g_name (i := 11) sc__law_derives.nd rfl (by first | exact Or.inl rfl | exact Or.inr (Or.inl rfl) | exact Or.inr (Or.inr rfl) | exact Or.inr rfl) (by decide))) (fun _ _ _ _ _ => ts_nil) (fun _ _ _ _ _ z12 => (e_and (O_toE (e_call C__law_is_integer hr (by decide) (by rfl) (a_cons (st_rep _) (e_fr (i := 11) rfl (by first | exact Or.inl rfl | exact Or.inr (Or.inl rfl) | exact Or.inr (Or.inr rfl) | exact Or.inr rfl) rfl rfl) a_nil) rfl)) (e_and1 (x_cmp (o_ge hr) (toV (e_fr (i := 11) rfl (by first | exact Or.inl rfl | exact Or.inr (Or.inl rfl) | exact Or.inr (Or.inr rfl) | exact Or.inr rfl) rfl rfl)) (toV e_int) (nomark _))))))))))))))
(s_one (z_ret rfl e_bl (by exact (fun d r h => ⟨d, rfl, (Option.some.inj h).symm⟩))))
(s_nil (env' := [a0, a1, a2, a3, t5, z7, PyData.none, PyData.none, PyData.none, PyData.none, PyData.none, PyData.none]) (fun r h => ⟨(), rfl, h⟩) ⟨.inl ⟨rfl, rfl⟩, .inl ⟨rfl, rfl⟩, .inl ⟨rfl, rfl⟩, .inl ⟨rfl, rfl⟩, .inl ⟨rfl, rfl⟩, .inl ⟨rfl, rfl⟩, .inr rfl, .inr rfl, .inr rfl, .inr rfl, .inr rfl, .inr rfl, trivial⟩)) (fun t14 =>
(s_asg sc__law_derives.nd (i := 6) rfl (by first | exact Or.inl rfl | exact Or.inr (Or.inl rfl) | exact Or.inr (Or.inr rfl) | exact Or.inr rfl) (by decide) (x_ix (toV (x_ix (toV (e_fr (i := 5) rfl (by first | exact Or.inl rfl | exact Or.inr (Or.inl rfl) | exact Or.inr (Or.inr rfl) | exact Or.inr rfl) rfl rfl)) (toV e_int))) (toV e_int)) (fun d15 =>
(s_asg sc__law_derives.nd (i := 7) rfl (by first | exact Or.inl rfl | exact Or.inr (Or.inl rfl) | exact Or.inr (Or.inr rfl) | exact Or.inr rfl) (by decide) (x_ix (toV (x_ix (toV (e_fr (i := 5) rfl (by first | exact Or.inl rfl | exact Or.inr (Or.inl rfl) | exact Or.inr (Or.inr rfl) | exact Or.inr rfl) rfl rfl)) (toV e_int))) (toV e_int)) (fun d16 =>
(s_asg sc__law_derives.nd (i := 8) rfl (by first | exact Or.inl rfl | exact Or.inr (Or.inl rfl) | exact Or.inr (Or.inr rfl) | exact Or.inr rfl) (by decide) (x_ix (toV (x_ix (toV (e_fr (i := 5) rfl (by first | exact Or.inl rfl | exact Or.inr (Or.inl rfl) | exact Or.inr (Or.inr rfl) | exact Or.inr rfl) rfl rfl)) (toV e_int))) (toV e_int)) (fun d17 =>
(s_asg sc__law_derives.nd (i := 9) rfl (by first | exact Or.inl rfl | exact Or.inr (Or.inl rfl) | exact Or.inr (Or.inr rfl) | exact Or.inr rfl) (by decide) (x_ix (toV (x_ix (toV (e_fr (i := 5) rfl (by first | exact Or.inl rfl | exact Or.inr (Or.inl rfl) | exact Or.inr (Or.inr rfl) | exact Or.inr rfl) rfl rfl)) (toV e_int))) (toV e_int)) (fun d18 =>
(s_asg sc__law_derives.nd (i := 10) rfl (by first | exact Or.inl rfl | exact Or.inr (Or.inl rfl) | exact Or.inr (Or.inr rfl) | exact Or.inr rfl) (by decide) (x_ix (toV (x_ix (toV (e_fr (i := 5) rfl (by first | exact Or.inl rfl | exact Or.inr (Or.inl rfl) | exact Or.inr (Or.inr rfl) | exact Or.inr rfl) rfl rfl)) (toV e_int))) (toV e_int)) (fun d19 =>
(s_jn (emb := fun (t21 : Unit) => [a0, a1, a2, a3, t5, z7, d15, d16, d17, d18, d19, PyData.none]) (sh' := [.fr, .fr, .fr, .fr, .ow .any, .fr, .fr, .fr, .fr, .fr, .fr, .un]) (fun k20 => z_if (PW.pt (w_or (y_cmp (o_ge hr) (toV (e_fr (i := 6) rfl (by first | exact Or.inl rfl | exact Or.inr (Or.inl rfl) | exact Or.inr (Or.inr rfl) | exact Or.inr rfl) rfl rfl)) (O_toV (e_b1 o_len (st_view _) (by rfl) B.n_len bt_len (e_ow (i := 4) rfl (by first | exact Or.inl rfl | exact Or.inr (Or.inl rfl) | exact Or.inr (Or.inr rfl) | exact Or.inr rfl) rfl rfl))) (nomark _)) (w_or (y_cmp (o_ge hr) (toV (e_fr (i := 7) rfl (by first | exact Or.inl rfl | exact Or.inr (Or.inl rfl) | exact Or.inr (Or.inr rfl) | exact Or.inr rfl) rfl rfl)) (O_toV (e_b1 o_len (st_view _) (by rfl) B.n_len bt_len (e_ow (i := 4) rfl (by first | exact Or.inl rfl | exact Or.inr (Or.inl rfl) | exact Or.inr (Or.inr rfl) | exact Or.inr rfl) rfl rfl))) (nomark _)) (w_or1 (y_cmp (o_ge hr) (toV (e_fr (i := 8) rfl (by first | exact Or.inl rfl | exact Or.inr (Or.inl rfl) | exact Or.inr (Or.inr rfl) | exact Or.inr rfl) rfl rfl)) (O_toV (e_b1 o_len (st_view _) (by rfl) B.n_len bt_len (e_ow (i := 4) rfl (by first | exact Or.inl rfl | exact Or.inr (Or.inl rfl) | exact Or.inr (Or.inr rfl) | exact Or.inr rfl) rfl rfl))) (nomark _))))))
(s_one (z_ret rfl e_bl (by exact (fun d r h => ⟨d, rfl, (Option.some.inj h).symm⟩))))
(s_nil (env' := [a0, a1, a2, a3, t5, z7, d15, d16, d17, d18, d19, PyData.none]) (fun r h => ⟨(), rfl, h⟩) ⟨.inl ⟨rfl, rfl⟩, .inl ⟨rfl, rfl⟩, .inl ⟨rfl, rfl⟩, .inl ⟨rfl, rfl⟩, .inl ⟨rfl, rfl⟩, .inl ⟨rfl, rfl⟩, .inl ⟨rfl, rfl⟩, .inl ⟨rfl, rfl⟩, .inl ⟨rfl, rfl⟩, .inl ⟨rfl, rfl⟩, .inl ⟨rfl, rfl⟩, .inr rfl, trivial⟩)) (fun t21 =>
(s_jn (emb := fun (t23 : Unit) => [a0, a1, a2, a3, t5, z7, d15, d16, d17, d18, d19, PyData.none]) (sh' := [.fr, .fr, .fr, .fr, .ow .any, .fr, .fr, .fr, .fr, .fr, .fr, .un]) (fun k22 => z_if (PW.pt (w_or (y_cmp (o_lt hr) (toV (e_fr (i := 9) rfl (by first | exact Or.inl rfl | exact Or.inr (Or.inl rfl) | exact Or.inr (Or.inr rfl) | exact Or.inr rfl) rfl rfl)) (toV (e_fr (i := 1) rfl (by first | exact Or.inl rfl | exact Or.inr (Or.inl rfl) | exact Or.inr (Or.inr rfl) | exact Or.inr rfl) rfl rfl)) (nomark _)) (w_or (y_cmp (o_lt hr) (toV (e_fr (i := 10) rfl (by first | exact Or.inl rfl | exact Or.inr (Or.inl rfl) | exact Or.inr (Or.inr rfl) | exact Or.inr rfl) rfl rfl)) (toV (e_fr (i := 1) rfl (by first | exact Or.inl rfl | exact Or.inr (Or.inl rfl) | exact Or.inr (Or.inr rfl) | exact Or.inr rfl) rfl rfl)) (nomark _)) (w_or (y_cmp (o_gt hr) (toV (e_fr (i := 9) rfl (by first | exact Or.inl rfl | exact Or.inr (Or.inl rfl) | exact Or.inr (Or.inr rfl) | exact Or.inr rfl) rfl rfl)) (O_toV (e_b1 o_len (st_view _) (by rfl) B.n_len bt_len (toV (x_ix (e_ow (i := 4) rfl (by first | exact Or.inl rfl | exact Or.inr (Or.inl rfl) | exact Or.inr (Or.inr rfl) | exact Or.inr rfl) rfl rfl) (toV (e_fr (i := 6) rfl (by first | exact Or.inl rfl | exact Or.inr (Or.inl rfl) | exact Or.inr (Or.inr rfl) | exact Or.inr rfl) rfl rfl)))))) (nomark _)) (w_or (y_cmp (o_gt hr) (toV (e_fr (i := 9) rfl (by first | exact Or.inl rfl | exact Or.inr (Or.inl rfl) | exact Or.inr (Or.inr rfl) | exact Or.inr rfl) rfl rfl)) (O_toV (e_b1 o_len (st_view _) (by rfl) B.n_len bt_len (toV (x_ix (e_ow (i := 4) rfl (by first | exact Or.inl rfl | exact Or.inr (Or.inl rfl) | exact Or.inr (Or.inr rfl) | exact Or.inr rfl) rfl rfl) (toV (e_fr (i := 8) rfl (by first | exact Or.inl rfl | exact Or.inr (Or.inl rfl) | exact Or.inr (Or.inr rfl) | exact Or.inr rfl) rfl rfl)))))) (nomark _)) (w_or1 (y_cmp (o_gt hr) (toV (e_fr (i := 10) rfl (by first | exact Or.inl rfl | exact Or.inr (Or.inl rfl) | exact Or.inr (Or.inr rfl) | exact Or.inr rfl) rfl rfl)) (O_toV (e_b1 o_len (st_view _) (by rfl) B.n_len bt_len (toV (x_ix (e_ow (i := 4) rfl (by first | exact Or.inl rfl | exact Or.inr (Or.inl rfl) | exact Or.inr (Or.inr rfl) | exact Or.inr rfl) rfl rfl) (toV (e_fr (i := 7) rfl (by first | exact Or.inl rfl | exact Or.inr (Or.inl rfl) | exact Or.inr (Or.inr rfl) | exact Or.inr rfl) rfl rfl)))))) (nomark _))))))))
(s_one (z_ret rfl e_bl (by exact (fun d r h => ⟨d, rfl, (Option.some.inj h).symm⟩))))
(s_nil (env' := [a0, a1, a2, a3, t5, z7, d15, d16, d17, d18, d19, PyData.none]) (fun r h => ⟨(), rfl, h⟩) ⟨.inl ⟨rfl, rfl⟩, .inl ⟨rfl, rfl⟩, .inl ⟨rfl, rfl⟩, .inl ⟨rfl, rfl⟩, .inl ⟨rfl, rfl⟩, .inl ⟨rfl, rfl⟩, .inl ⟨rfl, rfl⟩, .inl ⟨rfl, rfl⟩, .inl ⟨rfl, rfl⟩, .inl ⟨rfl, rfl⟩, .inl ⟨rfl, rfl⟩, .inr rfl, trivial⟩)) (fun t23 =>
(s_jn (emb := fun (t25 : Unit) => [a0, a1, a2, a3, t5, z7, PyData.none, d16, d17, d18, d19, PyData.none]) (sh' := [.fr, .fr, .fr, .fr, .ow .any, .fr, .un, .fr, .fr, .fr, .fr, .un]) (fun k24 => z_if (PW.pt (w_or (y_cmp (o_ne hr) (O_toV (x_sl (toV (x_ix (e_ow (i := 4) rfl (by first | exact Or.inl rfl | exact Or.inr (Or.inl rfl) | exact Or.inr (Or.inr rfl) | exact Or.inr rfl) rfl rfl) (toV (e_fr (i := 6) rfl (by first | exact Or.inl rfl | exact Or.inr (Or.inl rfl) | exact Or.inr (Or.inr rfl) | exact Or.inr rfl) rfl rfl)))) (x_some (O_toE (x_bin o_sub (toV (e_fr (i := 9) rfl (by first | exact Or.inl rfl | exact Or.inr (Or.inl rfl) | exact Or.inr (Or.inr rfl) | exact Or.inr rfl) rfl rfl)) (toV (e_fr (i := 1) rfl (by first | exact Or.inl rfl | exact Or.inr (Or.inl rfl) | exact Or.inr (Or.inr rfl) | exact Or.inr rfl) rfl rfl))))) (x_some (e_fr (i := 9) rfl (by first | exact Or.inl rfl | exact Or.inr (Or.inl rfl) | exact Or.inr (Or.inr rfl) | exact Or.inr rfl) rfl rfl)))) (O_toV (x_sl (toV (x_ix (e_ow (i := 4) rfl (by first | exact Or.inl rfl | exact Or.inr (Or.inl rfl) | exact Or.inr (Or.inr rfl) | exact Or.inr rfl) rfl rfl) (toV (e_fr (i := 7) rfl (by first | exact Or.inl rfl | exact Or.inr (Or.inl rfl) | exact Or.inr (Or.inr rfl) | exact Or.inr rfl) rfl rfl)))) (x_some (O_toE (x_bin o_sub (toV (e_fr (i := 10) rfl (by first | exact Or.inl rfl | exact Or.inr (Or.inl rfl) | exact Or.inr (Or.inr rfl) | exact Or.inr rfl) rfl rfl)) (toV (e_fr (i := 1) rfl (by first | exact Or.inl rfl | exact Or.inr (Or.inl rfl) | exact Or.inr (Or.inr rfl) | exact Or.inr rfl) rfl rfl))))) (x_some (e_fr (i := 10) rfl (by first | exact Or.inl rfl | exact Or.inr (Or.inl rfl) | exact Or.inr (Or.inr rfl) | exact Or.inr rfl) rfl rfl)))) (nomark _)) (w_or (y_cmp (o_ne hr) (O_toV (x_sl (toV (x_ix (e_ow (i := 4) rfl (by first | exact Or.inl rfl | exact Or.inr (Or.inl rfl) | exact Or.inr (Or.inr rfl) | exact Or.inr rfl) rfl rfl) (toV (e_fr (i := 6) rfl (by first | exact Or.inl rfl | exact Or.inr (Or.inl rfl) | exact Or.inr (Or.inr rfl) | exact Or.inr rfl) rfl rfl)))) (x_some (e_fr (i := 9) rfl (by first | exact Or.inl rfl | exact Or.inr (Or.inl rfl) | exact Or.inr (Or.inr rfl) | exact Or.inr rfl) rfl rfl)) p_none)) (O_toV (x_sl (toV (x_ix (e_ow (i := 4) rfl (by first | exact Or.inl rfl | exact Or.inr (Or.inl rfl) | exact Or.inr (Or.inr rfl) | exact Or.inr rfl) rfl rfl) (toV (e_fr (i := 7) rfl (by first | exact Or.inl rfl | exact Or.inr (Or.inl rfl) | exact Or.inr (Or.inr rfl) | exact Or.inr rfl) rfl rfl)))) (x_some (e_fr (i := 10) rfl (by first | exact Or.inl rfl | exact Or.inr (Or.inl rfl) | exact Or.inr (Or.inr rfl) | exact Or.inr rfl) rfl rfl)) p_none)) (nomark _)) (w_or1 (y_cmp (o_ne hr) (O_toV (x_sl (toV (x_ix (e_ow (i := 4) rfl (by first | exact Or.inl rfl | exact Or.inr (Or.inl rfl) | exact Or.inr (Or.inr rfl) | exact Or.inr rfl) rfl rfl) (toV (e_fr (i := 8) rfl (by first | exact Or.inl rfl | exact Or.inr (Or.inl rfl) | exact Or.inr (Or.inr rfl) | exact Or.inr rfl) rfl rfl)))) p_none (x_some (e_fr (i := 9) rfl (by first | exact Or.inl rfl | exact Or.inr (Or.inl rfl) | exact Or.inr (Or.inr rfl) | exact Or.inr rfl) rfl rfl)))) (O_toV (x_sl (toV (x_ix (e_ow (i := 4) rfl (by first | exact Or.inl rfl | exact Or.inr (Or.inl rfl) | exact Or.inr (Or.inr rfl) | exact Or.inr rfl) rfl rfl) (toV (e_fr (i := 6) rfl (by first | exact Or.inl rfl | exact Or.inr (Or.inl rfl) | exact Or.inr (Or.inr rfl) | exact Or.inr rfl) rfl rfl)))) p_none (x_some (e_fr (i := 9) rfl (by first | exact Or.inl rfl | exact Or.inr (Or.inl rfl) | exact Or.inr (Or.inr rfl) | exact Or.inr rfl) rfl rfl)))) (nomark _))))))
(s_one (z_ret rfl e_bl (by exact (fun d r h => ⟨d, rfl, (Option.some.inj h).symm⟩))))
(s_nil (env' := [a0, a1, a2, a3, t5, z7, PyData.none, d16, d17, d18, d19, PyData.none]) (fun r h => ⟨(), rfl, h⟩) ⟨.inl ⟨rfl, rfl⟩, .inl ⟨rfl, rfl⟩, .inl ⟨rfl, rfl⟩, .inl ⟨rfl, rfl⟩, .inl ⟨rfl, rfl⟩, .inl ⟨rfl, rfl⟩, .inr rfl, .inl ⟨rfl, rfl⟩, .inl ⟨rfl, rfl⟩, .inl ⟨rfl, rfl⟩, .inl ⟨rfl, rfl⟩, .inr rfl, trivial⟩)) (fun t25 =>
(s_one (z_if (y_cmp (o_ne hr) (toV (x_ix (toV (e_fr (i := 5) rfl (by first | exact Or.inl rfl | exact Or.inr (Or.inl rfl) | exact Or.inr (Or.inr rfl) | exact Or.inr rfl) rfl rfl)) (toV e_int))) (O_toV (x_bin o_add (O_toV (x_sl (toV (x_ix (e_ow (i := 4) rfl (by first | exact Or.inl rfl | exact Or.inr (Or.inl rfl) | exact Or.inr (Or.inr rfl) | exact Or.inr rfl) rfl rfl) (toV (e_fr (i := 7) rfl (by first | exact Or.inl rfl | exact Or.inr (Or.inl rfl) | exact Or.inr (Or.inr rfl) | exact Or.inr rfl) rfl rfl)))) p_none (x_some (e_fr (i := 10) rfl (by first | exact Or.inl rfl | exact Or.inr (Or.inl rfl) | exact Or.inr (Or.inr rfl) | exact Or.inr rfl) rfl rfl)))) (O_toV (x_sl (toV (x_ix (e_ow (i := 4) rfl (by first | exact Or.inl rfl | exact Or.inr (Or.inl rfl) | exact Or.inr (Or.inr rfl) | exact Or.inr rfl) rfl rfl) (toV (e_fr (i := 8) rfl (by first | exact Or.inl rfl | exact Or.inr (Or.inl rfl) | exact Or.inr (Or.inr rfl) | exact Or.inr rfl) rfl rfl)))) (x_some (e_fr (i := 9) rfl (by first | exact Or.inl rfl | exact Or.inr (Or.inl rfl) | exact Or.inr (Or.inr rfl) | exact Or.inr rfl) rfl rfl)) p_none)))) (nomark _))
(s_one (z_ret rfl e_bl (by exact (fun d r h => ⟨d, rfl, (Option.some.inj h).symm⟩))))
(s_nil (env' := [a0, a1, a2, a3, t5, z7, PyData.none, PyData.none, PyData.none, PyData.none, PyData.none, PyData.none]) (fun r h => ⟨(), rfl, h⟩) ⟨.inl ⟨rfl, rfl⟩, .inl ⟨rfl, rfl⟩, .inl ⟨rfl, rfl⟩, .inl ⟨rfl, rfl⟩, .inl ⟨rfl, rfl⟩, .inl ⟨rfl, rfl⟩, .inr rfl, .inr rfl, .inr rfl, .inr rfl, .inr rfl, .inr rfl, trivial⟩)))))))))))))))))))))) (fun t11 =>
(s_app (i := 4) rfl rfl (pe_bm PySem.F.plainAttrs_list PySem.F.slot_list_append PySem.F.type_list_append mt_append (pe_var (i := 4) rfl (by first | exact Or.inl rfl | exact Or.inr (Or.inl rfl) | exact Or.inr (Or.inr rfl) | exact Or.inr rfl) (by decide) (by decide)) (pa_cons (x_ix (toV (e_fr (i := 5) rfl (by first | exact Or.inl rfl | exact Or.inr (Or.inl rfl) | exact Or.inr (Or.inr rfl) | exact Or.inr rfl) rfl rfl)) (toV e_int)) pa_nil)) (fun d26 =>
(s_nil (env' := [a0, a1, a2, a3, d26, PyData.none, PyData.none, PyData.none, PyData.none, PyData.none, PyData.none, PyData.none]) (fun r h => ⟨d26, rfl, (Option.some.inj h).symm⟩) ⟨.inl ⟨rfl, rfl⟩, .inl ⟨rfl, rfl⟩, .inl ⟨rfl, rfl⟩, .inl ⟨rfl, rfl⟩, .inl ⟨rfl, rfl⟩, .inr rfl, .inr rfl, .inr rfl, .inr rfl, .inr rfl, .inr rfl, .inr rfl, trivial⟩))))))))) (fun t6 =>
(s_one (z_ret rfl (x_cmp (o_eq hr) (toV (x_ix (e_ow (i := 4) rfl (by first | exact Or.inl rfl | exact Or.inr (Or.inl rfl) | exact Or.inr (Or.inr rfl) | exact Or.inr rfl) rfl rfl) (toV (e_neg e_int)))) (toV (e_fr (i := 3) rfl (by first | exact Or.inl rfl | exact Or.inr (Or.inl rfl) | exact Or.inr (Or.inr rfl) | exact Or.inr rfl) rfl rfl)) (nomark _)) (by exact (fun d r h => Option.some.inj h))))))))))
abbrev st__law_k : Stmt := topS 13
theorem sc__law_k : FnScope ["draw"] ["draw"] (defScope st__law_k) := ⟨rfl, rfl, rfl, by decide +kernel, rfl, by decide +kernel, by decide +kernel⟩
theorem ok__law_k {P : Program} {w : World} {K : PySem.W.Frag} {mg : Str → Option Value} {base : Heap} {f : Addr} {fd : FuncData} {tb : Addr → Prop} (F : Fun K "_law_k" "_law_k" st__law_k f fd) (B : Bi mg) : FnOk P w K mg base CX0 1 f fd ["draw"] (spD ⟨P, w, K, tb⟩ [.fr] .fr (ap1 m__law_k)) := by
  refine f_ok F sc__law_k rfl (by decide) fun cdv A outer s H E ds hr hd => ?_
  obtain ⟨a0, rfl⟩ := List.length_eq_one_iff.mp hd
  show PSs _ _ (tS _ [.fr] [a0] _ (m__law_k a0))
  unfold m__law_k
  exact (s_jn (emb := fun (t2 : Unit) => [a0]) (sh' := [.fr]) (fun k1 => z_if (y_cmp (o_eq hr) (O_toV (x_bin o_mod (O_toV (e_t1 o_int (st_view _) (by rfl) B.n_int bt_int (toV (e_fr (i := 0) rfl (by first | exact Or.inl rfl | exact Or.inr (Or.inl rfl) | exact Or.inr (Or.inr rfl) | exact Or.inr rfl) rfl rfl)))) (toV e_int))) (toV e_int) (nomark _))
(s_one (z_ret rfl (O_toE (x_bin o_mod (O_toV (x_bin o_fdiv (O_toV (e_t1 o_int (st_view _) (by rfl) B.n_int bt_int (toV (e_fr (i := 0) rfl (by first | exact Or.inl rfl | exact Or.inr (Or.inl rfl) | exact Or.inr (Or.inr rfl) | exact Or.inr rfl) rfl rfl)))) (toV e_int))) (toV e_int))) (by exact (fun d r h => Option.some.inj h))))
(s_nil (env' := [a0]) (fun r h => ⟨(), rfl, h⟩) ⟨.inl ⟨rfl, rfl⟩, trivial⟩)) (fun t2 =>
(s_one (z_ret rfl (x_ix (toV (x_tup (a_cons (st_rep _) e_int (a_cons (st_rep _) e_int (a_cons (st_rep _) e_int (a_cons (st_rep _) e_int (a_cons (st_rep _) e_int (a_cons (st_rep _) e_int (a_cons (st_rep _) e_int (a_cons (st_rep _) e_int (a_cons (st_rep _) e_int (a_cons (st_rep _) e_int (a_cons (st_rep _) e_int a_nil))))))))))) (hp1 (hp1 (hp1 (hp1 (hp1 (hp1 (hp1 (hp1 (hp1 (hp1 (hp1 hp0))))))))))) (by decide) rfl)) (O_toV (x_bin o_mod (O_toV (e_t1 o_int (st_view _) (by rfl) B.n_int bt_int (toV (e_fr (i := 0) rfl (by first | exact Or.inl rfl | exact Or.inr (Or.inl rfl) | exact Or.inr (Or.inr rfl) | exact Or.inr rfl) rfl rfl)))) (toV e_int)))) (by exact (fun d r h => Option.some.inj h))))))
abbrev st__law_seen : Stmt := topS 14
theorem sc__law_seen : FnScope ["script", "at", "count", "longest", "draws", "letters"] ["script", "at", "count", "longest"] (defScope st__law_seen) := ⟨rfl, rfl, rfl, by decide +kernel, rfl, by decide +kernel, by decide +kernel⟩
theorem ok__law_seen {P : Program} {w : World} {K : PySem.W.Frag} {mg : Str → Option Value} {base : Heap} {f : Addr} {fd : FuncData} {tb : Addr → Prop} (F : Fun K "_law_seen" "_law_seen" st__law_seen f fd) (B : Bi mg) (C__law_cell : CallOk ⟨P, w, K, tb⟩ mg base "_law_cell" 1 [.sc, .fr] .fr (ap2 m__law_cell)) (C__law_draws : CallOk ⟨P, w, K, tb⟩ mg base "_law_draws" 1 [.fr, .fr] .fr (ap2 m__law_draws)) (C__law_k : CallOk ⟨P, w, K, tb⟩ mg base "_law_k" 1 [.fr] .fr (ap1 m__law_k)) (C__law_letters : CallOk ⟨P, w, K, tb⟩ mg base "_law_letters" 1 [.fr, .fr] .fr (ap2 m__law_letters)) (C__law_runs : CallOk ⟨P, w, K, tb⟩ mg base "_law_runs" 2 [.fr, .fr, .fr, .fr] .fr (ap4 m__law_runs)) : FnOk P w K mg base CX0 3 f fd ["script", "at", "count", "longest"] (spD ⟨P, w, K, tb⟩ [.sc, .fr, .fr, .fr] .fr (ap4 m__law_seen)) := by
  refine f_ok F sc__law_seen rfl (by decide) fun cdv A outer s H E ds hr hd => ?_
  obtain ⟨a0, a1, a2, a3, rfl⟩ := len4 hd
  show PSs _ _ (tS _ [.sc, .fr, .fr, .fr, .un, .un] [a0, a1, a2, a3, PyData.none, PyData.none] _ (m__law_seen a0 a1 a2 a3))
  unfold m__law_seen
  exact (s_asg sc__law_seen.nd (i := 4) rfl (by first | exact Or.inl rfl | exact Or.inr (Or.inl rfl) | exact Or.inr (Or.inr rfl) | exact Or.inr rfl) (by decide) (O_toE (e_call C__law_draws hr (by decide) (by rfl) (a_cons (st_rep _) (O_toE (e_call C__law_cell hr (by decide) (by rfl) (a_cons (st_scr _) (e_sc (i := 0) rfl (by first | exact Or.inl rfl | exact Or.inr (Or.inl rfl) | exact Or.inr (Or.inr rfl) | exact Or.inr rfl) rfl rfl) (a_cons (st_rep _) (e_fr (i := 1) rfl (by first | exact Or.inl rfl | exact Or.inr (Or.inl rfl) | exact Or.inr (Or.inr rfl) | exact Or.inr rfl) rfl rfl) a_nil)) rfl)) (a_cons (st_rep _) e_int a_nil)) rfl)) (fun d1 =>
(s_asg sc__law_seen.nd (i := 5) rfl (by first | exact Or.inl rfl | exact Or.inr (Or.inl rfl) | exact Or.inr (Or.inr rfl) | exact Or.inr rfl) (by decide) (O_toE (e_call C__law_letters hr (by decide) (by rfl) (a_cons (st_rep _) (x_ix (toV (e_fr (i := 4) rfl (by first | exact Or.inl rfl | exact Or.inr (Or.inl rfl) | exact Or.inr (Or.inr rfl) | exact Or.inr rfl) rfl rfl)) (toV e_int)) (a_cons (st_rep _) (x_ix (toV (x_tup (a_cons (st_rep _) e_int (a_cons (st_rep _) e_int (a_cons (st_rep _) e_int (a_cons (st_rep _) e_int (a_cons (st_rep _) e_int (a_cons (st_rep _) e_int a_nil)))))) (hp1 (hp1 (hp1 (hp1 (hp1 (hp1 hp0)))))) (by decide) rfl)) (O_toV (x_bin o_mod (O_toV (e_t1 o_int (st_view _) (by rfl) B.n_int bt_int (toV (x_ix (toV (e_fr (i := 4) rfl (by first | exact Or.inl rfl | exact Or.inr (Or.inl rfl) | exact Or.inr (Or.inr rfl) | exact Or.inr rfl) rfl rfl)) (toV e_int))))) (toV e_int)))) a_nil)) rfl)) (fun d2 =>
(s_one (z_ret rfl (x_tup (a_cons (st_rep _) (e_fr (i := 5) rfl (by first | exact Or.inl rfl | exact Or.inr (Or.inl rfl) | exact Or.inr (Or.inr rfl) | exact Or.inr rfl) rfl rfl) (a_cons (st_rep _) (O_toE (e_call C__law_runs hr (by decide) (by rfl) (a_cons (st_rep _) (O_toE (e_call C__law_cell hr (by decide) (by rfl) (a_cons (st_scr _) (e_sc (i := 0) rfl (by first | exact Or.inl rfl | exact Or.inr (Or.inl rfl) | exact Or.inr (Or.inr rfl) | exact Or.inr rfl) rfl rfl) (a_cons (st_rep _) (O_toE (x_bin o_add (toV (e_fr (i := 1) rfl (by first | exact Or.inl rfl | exact Or.inr (Or.inl rfl) | exact Or.inr (Or.inr rfl) | exact Or.inr rfl) rfl rfl)) (toV e_int))) a_nil)) rfl)) (a_cons (st_rep _) (e_fr (i := 5) rfl (by first | exact Or.inl rfl | exact Or.inr (Or.inl rfl) | exact Or.inr (Or.inr rfl) | exact Or.inr rfl) rfl rfl) (a_cons (st_rep _) (e_fr (i := 2) rfl (by first | exact Or.inl rfl | exact Or.inr (Or.inl rfl) | exact Or.inr (Or.inr rfl) | exact Or.inr rfl) rfl rfl) (a_cons (st_rep _) (e_fr (i := 3) rfl (by first | exact Or.inl rfl | exact Or.inr (Or.inl rfl) | exact Or.inr (Or.inr rfl) | exact Or.inr rfl) rfl rfl) a_nil)))) rfl)) (a_cons (st_rep _) (O_toE (e_call C__law_k hr (by decide) (by rfl) (a_cons (st_rep _) (x_ix (toV (e_fr (i := 4) rfl (by first | exact Or.inl rfl | exact Or.inr (Or.inl rfl) | exact Or.inr (Or.inr rfl) | exact Or.inr rfl) rfl rfl)) (toV e_int)) a_nil) rfl)) a_nil))) (hp1 (hp1 (hp1 hp0))) (by decide) rfl) (by exact (fun d r h => Option.some.inj h))))))))
abbrev st__law_fit : Stmt := topS 15
theorem sc__law_fit : FnScope ["runs", "most", "kept", "left", "run"] ["runs", "most"] (defScope st__law_fit) := ⟨rfl, rfl, rfl, by decide +kernel, rfl, by decide +kernel, by decide +kernel⟩
theorem ok__law_fit {P : Program} {w : World} {K : PySem.W.Frag} {mg : Str → Option Value} {base : Heap} {f : Addr} {fd : FuncData} {tb : Addr → Prop} (F : Fun K "_law_fit" "_law_fit" st__law_fit f fd) (B : Bi mg) : FnOk P w K mg base CX0 1 f fd ["runs", "most"] (spD ⟨P, w, K, tb⟩ [.fr, .fr] .fr (ap2 m__law_fit)) := by
  refine f_ok F sc__law_fit rfl (by decide) fun cdv A outer s H E ds hr hd => ?_
  obtain ⟨a0, a1, rfl⟩ := len2 hd
  show PSs _ _ (tS _ [.fr, .fr, .un, .un, .un] [a0, a1, PyData.none, PyData.none, PyData.none] _ (m__law_fit a0 a1))
  unfold m__law_fit
  exact (s_own (T := .any) sc__law_fit.nd (i := 2) rfl (by first | exact Or.inl rfl | exact Or.inr (Or.inl rfl) | exact Or.inr (Or.inr rfl) | exact Or.inr rfl) (by decide) (x_lst a_nil hp0 (by decide) rfl) (fun d1 =>
(s_asg sc__law_fit.nd (i := 3) rfl (by first | exact Or.inl rfl | exact Or.inr (Or.inl rfl) | exact Or.inr (Or.inr rfl) | exact Or.inr rfl) (by decide) (e_fr (i := 1) rfl (by first | exact Or.inl rfl | exact Or.inr (Or.inl rfl) | exact Or.inr (Or.inr rfl) | exact Or.inr rfl) rfl rfl) (fun d2 =>
(s_jn (emb := fun (t5 : PyData × PyData) => [a0, PyData.none, t5.1, t5.2, PyData.none]) (sh' := [.fr, .un, .ow .any, .fr, .un]) (fun k3 => z_for (t0 := (d1, d2)) PassesOwn.never rfl ⟨.inl ⟨rfl, rfl⟩, .inr rfl, .inl ⟨rfl, rfl⟩, .inl ⟨rfl, rfl⟩, .inr rfl, trivial⟩ (i_any (e_fr (i := 0) rfl (by first | exact Or.inl rfl | exact Or.inr (Or.inl rfl) | exact Or.inr (Or.inr rfl) | exact Or.inr rfl) rfl rfl)) (fun t4 => (g_name (i := 4) sc__law_fit.nd rfl (by first | exact Or.inl rfl | exact Or.inr (Or.inl rfl) | exact Or.inr (Or.inr rfl) | exact Or.inr rfl) (by decide))) (fun t4 z6 =>
(s_one (z_if (y_cmp (o_le hr) (O_toV (e_b1 o_len (st_view _) (by rfl) B.n_len bt_len (toV (e_fr (i := 4) rfl (by first | exact Or.inl rfl | exact Or.inr (Or.inl rfl) | exact Or.inr (Or.inr rfl) | exact Or.inr rfl) rfl rfl)))) (toV (e_fr (i := 3) rfl (by first | exact Or.inl rfl | exact Or.inr (Or.inl rfl) | exact Or.inr (Or.inr rfl) | exact Or.inr rfl) rfl rfl)) (nomark _))
(s_app (i := 2) rfl rfl (pe_bm PySem.F.plainAttrs_list PySem.F.slot_list_append PySem.F.type_list_append mt_append (pe_var (i := 2) rfl (by first | exact Or.inl rfl | exact Or.inr (Or.inl rfl) | exact Or.inr (Or.inr rfl) | exact Or.inr rfl) (by decide) (by decide)) (pa_cons (e_fr (i := 4) rfl (by first | exact Or.inl rfl | exact Or.inr (Or.inl rfl) | exact Or.inr (Or.inr rfl) | exact Or.inr rfl) rfl rfl) pa_nil)) (fun d7 =>
(s_asg sc__law_fit.nd (i := 3) rfl (by first | exact Or.inl rfl | exact Or.inr (Or.inl rfl) | exact Or.inr (Or.inr rfl) | exact Or.inr rfl) (by decide) (O_toE (x_bin o_sub (toV (e_fr (i := 3) rfl (by first | exact Or.inl rfl | exact Or.inr (Or.inl rfl) | exact Or.inr (Or.inr rfl) | exact Or.inr rfl) rfl rfl)) (O_toV (e_b1 o_len (st_view _) (by rfl) B.n_len bt_len (toV (e_fr (i := 4) rfl (by first | exact Or.inl rfl | exact Or.inr (Or.inl rfl) | exact Or.inr (Or.inr rfl) | exact Or.inr rfl) rfl rfl)))))) (fun d8 =>
(s_nil (env' := [a0, PyData.none, d7, d8, PyData.none]) (fun r h => ⟨(d7, d8), rfl, (Option.some.inj h).symm⟩) ⟨.inl ⟨rfl, rfl⟩, .inr rfl, .inl ⟨rfl, rfl⟩, .inl ⟨rfl, rfl⟩, .inr rfl, trivial⟩)))))
(s_one (s_brk (env' := [a0, PyData.none, t4.1, t4.2, PyData.none]) (fun r h => ⟨(t4.1, t4.2), rfl, (Option.some.inj h).symm⟩) ⟨.inl ⟨rfl, rfl⟩, .inr rfl, .inl ⟨rfl, rfl⟩, .inl ⟨rfl, rfl⟩, .inr rfl, trivial⟩)))))) (fun t5 =>
(s_one (z_ret rfl (O_toE (e_t1 o_tup (st_view _) (by rfl) B.n_tuple bt_tuple (e_ow (i := 2) rfl (by first | exact Or.inl rfl | exact Or.inr (Or.inl rfl) | exact Or.inr (Or.inr rfl) | exact Or.inr rfl) rfl rfl))) (by exact (fun d r h => Option.some.inj h))))))))))
abbrev st__law_long_runs : Stmt := topS 16
theorem sc__law_long_runs : FnScope ["cell", "letters", "draws", "kind", "base", "at", "first", "second", "third", "word", "head", "runs", "r", "rest"] ["cell", "letters"] (defScope st__law_long_runs) := ⟨rfl, rfl, rfl, by decide +kernel, rfl, by decide +kernel, by decide +kernel⟩
theorem ok__law_long_runs {P : Program} {w : World} {K : PySem.W.Frag} {mg : Str → Option Value} {base : Heap} {f : Addr} {fd : FuncData} {tb : Addr → Prop} (F : Fun K "_law_long_runs" "_law_long_runs" st__law_long_runs f fd) (B : Bi mg) (C__law_draws : CallOk ⟨P, w, K, tb⟩ mg base "_law_draws" 1 [.fr, .fr] .fr (ap2 m__law_draws)) (C__law_fit : CallOk ⟨P, w, K, tb⟩ mg base "_law_fit" 1 [.fr, .fr] .fr (ap2 m__law_fit)) (C__law_word : CallOk ⟨P, w, K, tb⟩ mg base "_law_word" 1 [.fr, .fr, .fr] .fr (ap3 m__law_word)) : FnOk P w K mg base CX0 2 f fd ["cell", "letters"] (spD ⟨P, w, K, tb⟩ [.fr, .fr] .fr (ap2 m__law_long_runs)) := by
  refine f_ok F sc__law_long_runs rfl (by decide) fun cdv A outer s H E ds hr hd => ?_
  obtain ⟨a0, a1, rfl⟩ := len2 hd
  show PSs _ _ (tS _ [.fr, .fr, .un, .un, .un, .un, .un, .un, .un, .un, .un, .un, .un, .un] [a0, a1, PyData.none, PyData.none, PyData.none, PyData.none, PyData.none, PyData.none, PyData.none, PyData.none, PyData.none, PyData.none, PyData.none, PyData.none] _ (m__law_long_runs a0 a1))
  unfold m__law_long_runs
  exact (s_asg sc__law_long_runs.nd (i := 2) rfl (by first | exact Or.inl rfl | exact Or.inr (Or.inl rfl) | exact Or.inr (Or.inr rfl) | exact Or.inr rfl) (by decide) (O_toE (e_call C__law_draws hr (by decide) (by rfl) (a_cons (st_rep _) (e_fr (i := 0) rfl (by first | exact Or.inl rfl | exact Or.inr (Or.inl rfl) | exact Or.inr (Or.inr rfl) | exact Or.inr rfl) rfl rfl) (a_cons (st_rep _) e_int a_nil)) rfl)) (fun d1 =>
(s_asg sc__law_long_runs.nd (i := 3) rfl (by first | exact Or.inl rfl | exact Or.inr (Or.inl rfl) | exact Or.inr (Or.inr rfl) | exact Or.inr rfl) (by decide) (O_toE (x_bin o_mod (O_toV (e_t1 o_int (st_view _) (by rfl) B.n_int bt_int (toV (x_ix (toV (e_fr (i := 2) rfl (by first | exact Or.inl rfl | exact Or.inr (Or.inl rfl) | exact Or.inr (Or.inr rfl) | exact Or.inr rfl) rfl rfl)) (toV e_int))))) (toV e_int))) (fun d2 =>
(s_asg sc__law_long_runs.nd (i := 4) rfl (by first | exact Or.inl rfl | exact Or.inr (Or.inl rfl) | exact Or.inr (Or.inr rfl) | exact Or.inr rfl) (by decide) (e_str (by decide +kernel) (by decide +kernel)) (fun d3 =>
(s_jn (emb := fun (t6 : PyData) => [PyData.none, a1, d1, d2, t6, PyData.none, PyData.none, PyData.none, PyData.none, PyData.none, PyData.none, PyData.none, PyData.none, PyData.none]) (sh' := [.un, .fr, .fr, .fr, .fr, .un, .un, .un, .un, .un, .un, .un, .un, .un]) (fun k4 => z_for (t0 := d3) PassesOwn.never rfl ⟨.inr rfl, .inl ⟨rfl, rfl⟩, .inl ⟨rfl, rfl⟩, .inl ⟨rfl, rfl⟩, .inl ⟨rfl, rfl⟩, .inr rfl, .inr rfl, .inr rfl, .inr rfl, .inr rfl, .inr rfl, .inr rfl, .inr rfl, .inr rfl, trivial⟩ (i_rng1 (by rfl) B.n_range (O_toE (x_bin o_sub (toV e_int) (O_toV (x_bin o_mod (O_toV (x_bin o_fdiv (O_toV (e_t1 o_int (st_view _) (by rfl) B.n_int bt_int (toV (x_ix (toV (e_fr (i := 2) rfl (by first | exact Or.inl rfl | exact Or.inr (Or.inl rfl) | exact Or.inr (Or.inr rfl) | exact Or.inr rfl) rfl rfl)) (toV e_int))))) (toV e_int))) (toV e_int)))))) (fun t5 => (g_name (i := 5) sc__law_long_runs.nd rfl (by first | exact Or.inl rfl | exact Or.inr (Or.inl rfl) | exact Or.inr (Or.inr rfl) | exact Or.inr rfl) (by decide))) (fun t5 z29 =>
(s_asg sc__law_long_runs.nd (i := 4) rfl (by first | exact Or.inl rfl | exact Or.inr (Or.inl rfl) | exact Or.inr (Or.inr rfl) | exact Or.inr rfl) (by decide) (O_toE (x_bin o_add (toV (e_fr (i := 4) rfl (by first | exact Or.inl rfl | exact Or.inr (Or.inl rfl) | exact Or.inr (Or.inr rfl) | exact Or.inr rfl) rfl rfl)) (toV (x_ix (toV (e_fr (i := 1) rfl (by first | exact Or.inl rfl | exact Or.inr (Or.inl rfl) | exact Or.inr (Or.inr rfl) | exact Or.inr rfl) rfl rfl)) (O_toV (x_bin o_mod (O_toV (e_t1 o_int (st_view _) (by rfl) B.n_int bt_int (toV (x_ix (toV (e_fr (i := 2) rfl (by first | exact Or.inl rfl | exact Or.inr (Or.inl rfl) | exact Or.inr (Or.inr rfl) | exact Or.inr rfl) rfl rfl)) (O_toV (x_bin o_add (toV e_int) (toV (e_fr (i := 5) rfl (by first | exact Or.inl rfl | exact Or.inr (Or.inl rfl) | exact Or.inr (Or.inr rfl) | exact Or.inr rfl) rfl rfl)))))))) (O_toV (e_b1 o_len (st_view _) (by rfl) B.n_len bt_len (toV (e_fr (i := 1) rfl (by first | exact Or.inl rfl | exact Or.inr (Or.inl rfl) | exact Or.inr (Or.inr rfl) | exact Or.inr rfl) rfl rfl)))))))))) (fun d30 =>
(s_nil (env' := [PyData.none, a1, d1, d2, d30, PyData.none, PyData.none, PyData.none, PyData.none, PyData.none, PyData.none, PyData.none, PyData.none, PyData.none]) (fun r h => ⟨d30, rfl, (Option.some.inj h).symm⟩) ⟨.inr rfl, .inl ⟨rfl, rfl⟩, .inl ⟨rfl, rfl⟩, .inl ⟨rfl, rfl⟩, .inl ⟨rfl, rfl⟩, .inr rfl, .inr rfl, .inr rfl, .inr rfl, .inr rfl, .inr rfl, .inr rfl, .inr rfl, .inr rfl, trivial⟩))))) (fun t6 =>
(s_jn (emb := fun (t8 : Unit) => [PyData.none, a1, d1, d2, t6, PyData.none, PyData.none, PyData.none, PyData.none, PyData.none, PyData.none, PyData.none, PyData.none, PyData.none]) (sh' := [.un, .fr, .fr, .fr, .fr, .un, .un, .un, .un, .un, .un, .un, .un, .un]) (fun k7 => z_if (PW.pt (w_and (y_cmp (o_eq hr) (toV (e_fr (i := 3) rfl (by first | exact Or.inl rfl | exact Or.inr (Or.inl rfl) | exact Or.inr (Or.inr rfl) | exact Or.inr rfl) rfl rfl)) (toV e_int) (nomark _)) (w_and1 (y_cmp (o_eq hr) (O_toV (x_bin o_mod (O_toV (e_t1 o_int (st_view _) (by rfl) B.n_int bt_int (toV (x_ix (toV (e_fr (i := 2) rfl (by first | exact Or.inl rfl | exact Or.inr (Or.inl rfl) | exact Or.inr (Or.inr rfl) | exact Or.inr rfl) rfl rfl)) (toV e_int))))) (toV e_int))) (toV e_int) (nomark _)))))
(s_one (z_ret rfl (x_tup (a_cons (st_rep _) (e_fr (i := 4) rfl (by first | exact Or.inl rfl | exact Or.inr (Or.inl rfl) | exact Or.inr (Or.inr rfl) | exact Or.inr rfl) rfl rfl) a_nil) (hp1 hp0) (by decide) rfl) (by exact (fun d r h => Option.some.inj h))))
(s_nil (env' := [PyData.none, a1, d1, d2, t6, PyData.none, PyData.none, PyData.none, PyData.none, PyData.none, PyData.none, PyData.none, PyData.none, PyData.none]) (fun r h => ⟨(), rfl, h⟩) ⟨.inr rfl, .inl ⟨rfl, rfl⟩, .inl ⟨rfl, rfl⟩, .inl ⟨rfl, rfl⟩, .inl ⟨rfl, rfl⟩, .inr rfl, .inr rfl, .inr rfl, .inr rfl, .inr rfl, .inr rfl, .inr rfl, .inr rfl, .inr rfl, trivial⟩)) (fun t8 =>
(s_jn (emb := fun (t10 : Unit) => [PyData.none, a1, d1, d2, PyData.none, PyData.none, PyData.none, PyData.none, PyData.none, PyData.none, PyData.none, PyData.none, PyData.none, PyData.none]) (sh' := [.un, .fr, .fr, .fr, .un, .un, .un, .un, .un, .un, .un, .un, .un, .un]) (fun k9 => z_if (y_cmp (o_eq hr) (toV (e_fr (i := 3) rfl (by first | exact Or.inl rfl | exact Or.inr (Or.inl rfl) | exact Or.inr (Or.inr rfl) | exact Or.inr rfl) rfl rfl)) (toV e_int) (nomark _))
(s_asg sc__law_long_runs.nd (i := 6) rfl (by first | exact Or.inl rfl | exact Or.inr (Or.inl rfl) | exact Or.inr (Or.inr rfl) | exact Or.inr rfl) (by decide) (O_toE (x_sl (toV (e_fr (i := 4) rfl (by first | exact Or.inl rfl | exact Or.inr (Or.inl rfl) | exact Or.inr (Or.inr rfl) | exact Or.inr rfl) rfl rfl)) p_none (x_some (O_toE (x_bin o_add (toV e_int) (O_toV (x_bin o_mod (O_toV (e_t1 o_int (st_view _) (by rfl) B.n_int bt_int (toV (x_ix (toV (e_fr (i := 2) rfl (by first | exact Or.inl rfl | exact Or.inr (Or.inl rfl) | exact Or.inr (Or.inr rfl) | exact Or.inr rfl) rfl rfl)) (toV e_int))))) (toV e_int)))))))) (fun d11 =>
(s_asg sc__law_long_runs.nd (i := 7) rfl (by first | exact Or.inl rfl | exact Or.inr (Or.inl rfl) | exact Or.inr (Or.inr rfl) | exact Or.inr rfl) (by decide) (O_toE (x_bin o_add (O_toV (x_sl (toV (e_fr (i := 6) rfl (by first | exact Or.inl rfl | exact Or.inr (Or.inl rfl) | exact Or.inr (Or.inr rfl) | exact Or.inr rfl) rfl rfl)) p_none (x_some (O_toE (x_bin o_mod (O_toV (e_t1 o_int (st_view _) (by rfl) B.n_int bt_int (toV (x_ix (toV (e_fr (i := 2) rfl (by first | exact Or.inl rfl | exact Or.inr (Or.inl rfl) | exact Or.inr (Or.inr rfl) | exact Or.inr rfl) rfl rfl)) (toV e_int))))) (O_toV (x_bin o_add (O_toV (e_b1 o_len (st_view _) (by rfl) B.n_len bt_len (toV (e_fr (i := 6) rfl (by first | exact Or.inl rfl | exact Or.inr (Or.inl rfl) | exact Or.inr (Or.inr rfl) | exact Or.inr rfl) rfl rfl)))) (toV e_int)))))))) (O_toV (x_sl (toV (e_fr (i := 6) rfl (by first | exact Or.inl rfl | exact Or.inr (Or.inl rfl) | exact Or.inr (Or.inr rfl) | exact Or.inr rfl) rfl rfl)) (x_some (O_toE (x_bin o_mod (O_toV (e_t1 o_int (st_view _) (by rfl) B.n_int bt_int (toV (x_ix (toV (e_fr (i := 2) rfl (by first | exact Or.inl rfl | exact Or.inr (Or.inl rfl) | exact Or.inr (Or.inr rfl) | exact Or.inr rfl) rfl rfl)) (toV e_int))))) (O_toV (x_bin o_add (O_toV (e_b1 o_len (st_view _) (by rfl) B.n_len bt_len (toV (e_fr (i := 6) rfl (by first | exact Or.inl rfl | exact Or.inr (Or.inl rfl) | exact Or.inr (Or.inr rfl) | exact Or.inr rfl) rfl rfl)))) (toV e_int)))))) p_none)))) (fun d12 =>
(s_asg sc__law_long_runs.nd (i := 8) rfl (by first | exact Or.inl rfl | exact Or.inr (Or.inl rfl) | exact Or.inr (Or.inr rfl) | exact Or.inr rfl) (by decide) (O_toE (x_bin o_add (O_toV (x_sl (toV (e_fr (i := 6) rfl (by first | exact Or.inl rfl | exact Or.inr (Or.inl rfl) | exact Or.inr (Or.inr rfl) | exact Or.inr rfl) rfl rfl)) (x_some (O_toE (x_bin o_mod (O_toV (e_t1 o_int (st_view _) (by rfl) B.n_int bt_int (toV (x_ix (toV (e_fr (i := 2) rfl (by first | exact Or.inl rfl | exact Or.inr (Or.inl rfl) | exact Or.inr (Or.inr rfl) | exact Or.inr rfl) rfl rfl)) (toV e_int))))) (O_toV (e_b1 o_len (st_view _) (by rfl) B.n_len bt_len (toV (e_fr (i := 6) rfl (by first | exact Or.inl rfl | exact Or.inr (Or.inl rfl) | exact Or.inr (Or.inr rfl) | exact Or.inr rfl) rfl rfl))))))) p_none)) (toV (e_fr (i := 6) rfl (by first | exact Or.inl rfl | exact Or.inr (Or.inl rfl) | exact Or.inr (Or.inr rfl) | exact Or.inr rfl) rfl rfl)))) (fun d13 =>
(s_one (z_ret rfl (x_tup (a_cons (st_rep _) (e_fr (i := 6) rfl (by first | exact Or.inl rfl | exact Or.inr (Or.inl rfl) | exact Or.inr (Or.inr rfl) | exact Or.inr rfl) rfl rfl) (a_cons (st_rep _) (O_toE (x_sl (toV (e_fr (i := 7) rfl (by first | exact Or.inl rfl | exact Or.inr (Or.inl rfl) | exact Or.inr (Or.inr rfl) | exact Or.inr rfl) rfl rfl)) p_none (x_some e_int))) (a_cons (st_rep _) (O_toE (x_sl (toV (e_fr (i := 8) rfl (by first | exact Or.inl rfl | exact Or.inr (Or.inl rfl) | exact Or.inr (Or.inr rfl) | exact Or.inr rfl) rfl rfl)) p_none (x_some e_int))) a_nil))) (hp1 (hp1 (hp1 hp0))) (by decide) rfl) (by exact (fun d r h => Option.some.inj h))))))))))
(s_nil (env' := [PyData.none, a1, d1, d2, PyData.none, PyData.none, PyData.none, PyData.none, PyData.none, PyData.none, PyData.none, PyData.none, PyData.none, PyData.none]) (fun r h => ⟨(), rfl, h⟩) ⟨.inr rfl, .inl ⟨rfl, rfl⟩, .inl ⟨rfl, rfl⟩, .inl ⟨rfl, rfl⟩, .inr rfl, .inr rfl, .inr rfl, .inr rfl, .inr rfl, .inr rfl, .inr rfl, .inr rfl, .inr rfl, .inr rfl, trivial⟩)) (fun t10 =>
(s_jn (emb := fun (t15 : Unit) => [PyData.none, a1, d1, d2, PyData.none, PyData.none, PyData.none, PyData.none, PyData.none, PyData.none, PyData.none, PyData.none, PyData.none, PyData.none]) (sh' := [.un, .fr, .fr, .fr, .un, .un, .un, .un, .un, .un, .un, .un, .un, .un]) (fun k14 => z_if (y_cmp (o_eq hr) (toV (e_fr (i := 3) rfl (by first | exact Or.inl rfl | exact Or.inr (Or.inl rfl) | exact Or.inr (Or.inr rfl) | exact Or.inr rfl) rfl rfl)) (toV e_int) (nomark _))
(s_asg sc__law_long_runs.nd (i := 9) rfl (by first | exact Or.inl rfl | exact Or.inr (Or.inl rfl) | exact Or.inr (Or.inr rfl) | exact Or.inr rfl) (by decide) (O_toE (x_bin o_add (toV (O_toE (e_call C__law_word hr (by decide) (by rfl) (a_cons (st_rep _) (x_ix (toV (e_fr (i := 2) rfl (by first | exact Or.inl rfl | exact Or.inr (Or.inl rfl) | exact Or.inr (Or.inr rfl) | exact Or.inr rfl) rfl rfl)) (toV e_int)) (a_cons (st_rep _) (e_fr (i := 1) rfl (by first | exact Or.inl rfl | exact Or.inr (Or.inl rfl) | exact Or.inr (Or.inr rfl) | exact Or.inr rfl) rfl rfl) (a_cons (st_rep _) e_int a_nil))) rfl))) (toV (x_ix (toV (e_fr (i := 1) rfl (by first | exact Or.inl rfl | exact Or.inr (Or.inl rfl) | exact Or.inr (Or.inr rfl) | exact Or.inr rfl) rfl rfl)) (toV e_int))))) (fun d16 =>
(s_asg sc__law_long_runs.nd (i := 10) rfl (by first | exact Or.inl rfl | exact Or.inr (Or.inl rfl) | exact Or.inr (Or.inr rfl) | exact Or.inr rfl) (by decide) (O_toE (e_call C__law_word hr (by decide) (by rfl) (a_cons (st_rep _) (x_ix (toV (e_fr (i := 2) rfl (by first | exact Or.inl rfl | exact Or.inr (Or.inl rfl) | exact Or.inr (Or.inr rfl) | exact Or.inr rfl) rfl rfl)) (toV e_int)) (a_cons (st_rep _) (e_fr (i := 1) rfl (by first | exact Or.inl rfl | exact Or.inr (Or.inl rfl) | exact Or.inr (Or.inr rfl) | exact Or.inr rfl) rfl rfl) (a_cons (st_rep _) e_int a_nil))) rfl)) (fun d17 =>
(s_one (z_ret rfl (x_tup (a_cons (st_rep _) (O_toE (x_bin o_add (toV (e_fr (i := 10) rfl (by first | exact Or.inl rfl | exact Or.inr (Or.inl rfl) | exact Or.inr (Or.inr rfl) | exact Or.inr rfl) rfl rfl)) (O_toV (x_sl (O_toV (x_bin o_mul (toV (e_fr (i := 9) rfl (by first | exact Or.inl rfl | exact Or.inr (Or.inl rfl) | exact Or.inr (Or.inr rfl) | exact Or.inr rfl) rfl rfl)) (toV e_int))) p_none (x_some (O_toE (x_bin o_sub (toV e_int) (O_toV (x_bin o_mod (O_toV (e_t1 o_int (st_view _) (by rfl) B.n_int bt_int (toV (x_ix (toV (e_fr (i := 2) rfl (by first | exact Or.inl rfl | exact Or.inr (Or.inl rfl) | exact Or.inr (Or.inr rfl) | exact Or.inr rfl) rfl rfl)) (toV e_int))))) (toV e_int)))))))))) (a_cons (st_rep _) (O_toE (x_bin o_add (toV (e_fr (i := 10) rfl (by first | exact Or.inl rfl | exact Or.inr (Or.inl rfl) | exact Or.inr (Or.inr rfl) | exact Or.inr rfl) rfl rfl)) (O_toV (x_bin o_mul (toV (e_fr (i := 9) rfl (by first | exact Or.inl rfl | exact Or.inr (Or.inl rfl) | exact Or.inr (Or.inr rfl) | exact Or.inr rfl) rfl rfl)) (O_toV (x_bin o_add (toV e_int) (O_toV (x_bin o_mod (O_toV (e_t1 o_int (st_view _) (by rfl) B.n_int bt_int (toV (x_ix (toV (e_fr (i := 2) rfl (by first | exact Or.inl rfl | exact Or.inr (Or.inl rfl) | exact Or.inr (Or.inr rfl) | exact Or.inr rfl) rfl rfl)) (toV e_int))))) (toV e_int))))))))) a_nil)) (hp1 (hp1 hp0)) (by decide) rfl) (by exact (fun d r h => Option.some.inj h))))))))
(s_nil (env' := [PyData.none, a1, d1, d2, PyData.none, PyData.none, PyData.none, PyData.none, PyData.none, PyData.none, PyData.none, PyData.none, PyData.none, PyData.none]) (fun r h => ⟨(), rfl, h⟩) ⟨.inr rfl, .inl ⟨rfl, rfl⟩, .inl ⟨rfl, rfl⟩, .inl ⟨rfl, rfl⟩, .inr rfl, .inr rfl, .inr rfl, .inr rfl, .inr rfl, .inr rfl, .inr rfl, .inr rfl, .inr rfl, .inr rfl, trivial⟩)) (fun t15 =>
(s_jn (emb := fun (t19 : Unit) => [PyData.none, a1, d1, PyData.none, PyData.none, PyData.none, PyData.none, PyData.none, PyData.none, PyData.none, PyData.none, PyData.none, PyData.none, PyData.none]) (sh' := [.un, .fr, .fr, .un, .un, .un, .un, .un, .un, .un, .un, .un, .un, .un]) (fun k18 => z_if (y_cmp (o_eq hr) (toV (e_fr (i := 3) rfl (by first | exact Or.inl rfl | exact Or.inr (Or.inl rfl) | exact Or.inr (Or.inr rfl) | exact Or.inr rfl) rfl rfl)) (toV e_int) (nomark _))
(s_own (T := .any) sc__law_long_runs.nd (i := 11) rfl (by first | exact Or.inl rfl | exact Or.inr (Or.inl rfl) | exact Or.inr (Or.inr rfl) | exact Or.inr rfl) (by decide) (x_lst a_nil hp0 (by decide) rfl) (fun d20 =>
(s_jn (emb := fun (t23 : PyData) => [PyData.none, a1, d1, PyData.none, PyData.none, PyData.none, PyData.none, PyData.none, PyData.none, PyData.none, PyData.none, t23, PyData.none, PyData.none]) (sh' := [.un, .fr, .fr, .un, .un, .un, .un, .un, .un, .un, .un, .ow .any, .un, .un]) (fun k21 => z_for (t0 := d20) PassesOwn.never rfl ⟨.inr rfl, .inl ⟨rfl, rfl⟩, .inl ⟨rfl, rfl⟩, .inr rfl, .inr rfl, .inr rfl, .inr rfl, .inr rfl, .inr rfl, .inr rfl, .inr rfl, .inl ⟨rfl, rfl⟩, .inr rfl, .inr rfl, trivial⟩ (i_rng1 (by rfl) B.n_range e_int) (fun t22 => (g_name (i := 12) sc__law_long_runs.nd rfl (by first | exact Or.inl rfl | exact Or.inr (Or.inl rfl) | exact Or.inr (Or.inr rfl) | exact Or.inr rfl) (by decide))) (fun t22 z24 =>
(s_asg sc__law_long_runs.nd (i := 9) rfl (by first | exact Or.inl rfl | exact Or.inr (Or.inl rfl) | exact Or.inr (Or.inr rfl) | exact Or.inr rfl) (by decide) (O_toE (x_bin o_add (toV (O_toE (e_call C__law_word hr (by decide) (by rfl) (a_cons (st_rep _) (x_ix (toV (e_fr (i := 2) rfl (by first | exact Or.inl rfl | exact Or.inr (Or.inl rfl) | exact Or.inr (Or.inr rfl) | exact Or.inr rfl) rfl rfl)) (O_toV (x_bin o_add (toV e_int) (O_toV (x_bin o_mul (toV e_int) (toV (e_fr (i := 12) rfl (by first | exact Or.inl rfl | exact Or.inr (Or.inl rfl) | exact Or.inr (Or.inr rfl) | exact Or.inr rfl) rfl rfl))))))) (a_cons (st_rep _) (e_fr (i := 1) rfl (by first | exact Or.inl rfl | exact Or.inr (Or.inl rfl) | exact Or.inr (Or.inr rfl) | exact Or.inr rfl) rfl rfl) (a_cons (st_rep _) e_int a_nil))) rfl))) (toV (x_ix (toV (e_fr (i := 1) rfl (by first | exact Or.inl rfl | exact Or.inr (Or.inl rfl) | exact Or.inr (Or.inr rfl) | exact Or.inr rfl) rfl rfl)) (O_toV (x_bin o_mod (O_toV (e_t1 o_int (st_view _) (by rfl) B.n_int bt_int (toV (x_ix (toV (e_fr (i := 2) rfl (by first | exact Or.inl rfl | exact Or.inr (Or.inl rfl) | exact Or.inr (Or.inr rfl) | exact Or.inr rfl) rfl rfl)) (O_toV (x_bin o_add (toV e_int) (O_toV (x_bin o_mul (toV e_int) (toV (e_fr (i := 12) rfl (by first | exact Or.inl rfl | exact Or.inr (Or.inl rfl) | exact Or.inr (Or.inr rfl) | exact Or.inr rfl) rfl rfl)))))))))) (O_toV (e_b1 o_len (st_view _) (by rfl) B.n_len bt_len (toV (e_fr (i := 1) rfl (by first | exact Or.inl rfl | exact Or.inr (Or.inl rfl) | exact Or.inr (Or.inr rfl) | exact Or.inr rfl) rfl rfl)))))))))) (fun d25 =>
(s_asg sc__law_long_runs.nd (i := 13) rfl (by first | exact Or.inl rfl | exact Or.inr (Or.inl rfl) | exact Or.inr (Or.inr rfl) | exact Or.inr rfl) (by decide) (O_toE (e_call C__law_word hr (by decide) (by rfl) (a_cons (st_rep _) (x_ix (toV (e_fr (i := 2) rfl (by first | exact Or.inl rfl | exact Or.inr (Or.inl rfl) | exact Or.inr (Or.inr rfl) | exact Or.inr rfl) rfl rfl)) (O_toV (x_bin o_add (toV e_int) (O_toV (x_bin o_mul (toV e_int) (toV (e_fr (i := 12) rfl (by first | exact Or.inl rfl | exact Or.inr (Or.inl rfl) | exact Or.inr (Or.inr rfl) | exact Or.inr rfl) rfl rfl))))))) (a_cons (st_rep _) (e_fr (i := 1) rfl (by first | exact Or.inl rfl | exact Or.inr (Or.inl rfl) | exact Or.inr (Or.inr rfl) | exact Or.inr rfl) rfl rfl) (a_cons (st_rep _) e_int a_nil))) rfl)) (fun d26 =>
(s_app (i := 11) rfl rfl (pe_bm PySem.F.plainAttrs_list PySem.F.slot_list_append PySem.F.type_list_append mt_append (pe_var (i := 11) rfl (by first | exact Or.inl rfl | exact Or.inr (Or.inl rfl) | exact Or.inr (Or.inr rfl) | exact Or.inr rfl) (by decide) (by decide)) (pa_cons (O_toE (x_bin o_add (O_toV (x_sl (O_toV (x_bin o_mul (toV (e_fr (i := 9) rfl (by first | exact Or.inl rfl | exact Or.inr (Or.inl rfl) | exact Or.inr (Or.inr rfl) | exact Or.inr rfl) rfl rfl)) (toV e_int))) p_none (x_some (O_toE (x_bin o_add (toV e_int) (O_toV (x_bin o_mod (O_toV (e_t1 o_int (st_view _) (by rfl) B.n_int bt_int (toV (x_ix (toV (e_fr (i := 2) rfl (by first | exact Or.inl rfl | exact Or.inr (Or.inl rfl) | exact Or.inr (Or.inr rfl) | exact Or.inr rfl) rfl rfl)) (O_toV (x_bin o_add (toV e_int) (O_toV (x_bin o_mul (toV e_int) (toV (e_fr (i := 12) rfl (by first | exact Or.inl rfl | exact Or.inr (Or.inl rfl) | exact Or.inr (Or.inr rfl) | exact Or.inr rfl) rfl rfl)))))))))) (toV e_int)))))))) (toV (e_fr (i := 13) rfl (by first | exact Or.inl rfl | exact Or.inr (Or.inl rfl) | exact Or.inr (Or.inr rfl) | exact Or.inr rfl) rfl rfl)))) pa_nil)) (fun d27 =>
(s_nil (env' := [PyData.none, a1, d1, PyData.none, PyData.none, PyData.none, PyData.none, PyData.none, PyData.none, PyData.none, PyData.none, d27, PyData.none, PyData.none]) (fun r h => ⟨d27, rfl, (Option.some.inj h).symm⟩) ⟨.inr rfl, .inl ⟨rfl, rfl⟩, .inl ⟨rfl, rfl⟩, .inr rfl, .inr rfl, .inr rfl, .inr rfl, .inr rfl, .inr rfl, .inr rfl, .inr rfl, .inl ⟨rfl, rfl⟩, .inr rfl, .inr rfl, trivial⟩))))))))) (fun t23 =>
(s_frz 11 rfl rfl
(s_one (z_ret rfl (O_toE (e_call C__law_fit hr (by decide) (by rfl) (a_cons (st_rep _) (e_fr (i := 11) rfl (by first | exact Or.inl rfl | exact Or.inr (Or.inl rfl) | exact Or.inr (Or.inr rfl) | exact Or.inr rfl) rfl rfl) (a_cons (st_rep _) e_int a_nil)) rfl)) (by exact (fun d r h => Option.some.inj h)))))))))
(s_nil (env' := [PyData.none, a1, d1, PyData.none, PyData.none, PyData.none, PyData.none, PyData.none, PyData.none, PyData.none, PyData.none, PyData.none, PyData.none, PyData.none]) (fun r h => ⟨(), rfl, h⟩) ⟨.inr rfl, .inl ⟨rfl, rfl⟩, .inl ⟨rfl, rfl⟩, .inr rfl, .inr rfl, .inr rfl, .inr rfl, .inr rfl, .inr rfl, .inr rfl, .inr rfl, .inr rfl, .inr rfl, .inr rfl, trivial⟩)) (fun t19 =>
(s_one (z_ret rfl (O_toE (e_call C__law_fit hr (by decide) (by rfl) (a_cons (st_rep _) (O_toE (x_lc [("r", 12)] rfl sc__law_long_runs.nd (i_rng1 (by rfl) B.n_range e_int) (blkOk_by (by rfl)) (by decide) (av (.inl rfl) av0) (fun _ _ _ _ _ => (g_name (i := 12) sc__law_long_runs.nd rfl (by first | exact Or.inl rfl | exact Or.inr (Or.inl rfl) | exact Or.inr (Or.inr rfl) | exact Or.inr rfl) (by decide))) (fun _ _ _ _ _ => ts_nil) (fun _ _ _ _ _ z28 => (O_toE (e_call C__law_word hr (by decide) (by rfl) (a_cons (st_rep _) (x_ix (toV (e_fr (i := 2) rfl (by first | exact Or.inl rfl | exact Or.inr (Or.inl rfl) | exact Or.inr (Or.inr rfl) | exact Or.inr rfl) rfl rfl)) (O_toV (x_bin o_add (toV e_int) (toV (e_fr (i := 12) rfl (by first | exact Or.inl rfl | exact Or.inr (Or.inl rfl) | exact Or.inr (Or.inr rfl) | exact Or.inr rfl) rfl rfl))))) (a_cons (st_rep _) (e_fr (i := 1) rfl (by first | exact Or.inl rfl | exact Or.inr (Or.inl rfl) | exact Or.inr (Or.inr rfl) | exact Or.inr rfl) rfl rfl) (a_cons (st_rep _) (O_toE (x_bin o_add (toV e_int) (O_toV (x_bin o_mod (O_toV (e_t1 o_int (st_view _) (by rfl) B.n_int bt_int (toV (x_ix (toV (e_fr (i := 2) rfl (by first | exact Or.inl rfl | exact Or.inr (Or.inl rfl) | exact Or.inr (Or.inr rfl) | exact Or.inr rfl) rfl rfl)) (toV e_int))))) (toV e_int))))) a_nil))) rfl))))) (a_cons (st_rep _) e_int a_nil)) rfl)) (by exact (fun d r h => Option.some.inj h))))))))))))))))))))
abbrev st__law_seen_any : Stmt := topS 17
theorem sc__law_seen_any : FnScope ["script", "at", "count", "longest", "seen"] ["script", "at", "count", "longest"] (defScope st__law_seen_any) := ⟨rfl, rfl, rfl, by decide +kernel, rfl, by decide +kernel, by decide +kernel⟩
theorem ok__law_seen_any {P : Program} {w : World} {K : PySem.W.Frag} {mg : Str → Option Value} {base : Heap} {f : Addr} {fd : FuncData} {tb : Addr → Prop} (F : Fun K "_law_seen_any" "_law_seen_any" st__law_seen_any f fd) (B : Bi mg) (C__law_cell : CallOk ⟨P, w, K, tb⟩ mg base "_law_cell" 1 [.sc, .fr] .fr (ap2 m__law_cell)) (C__law_draws : CallOk ⟨P, w, K, tb⟩ mg base "_law_draws" 1 [.fr, .fr] .fr (ap2 m__law_draws)) (C__law_long_runs : CallOk ⟨P, w, K, tb⟩ mg base "_law_long_runs" 2 [.fr, .fr] .fr (ap2 m__law_long_runs)) (C__law_seen : CallOk ⟨P, w, K, tb⟩ mg base "_law_seen" 3 [.sc, .fr, .fr, .fr] .fr (ap4 m__law_seen)) : FnOk P w K mg base CX0 4 f fd ["script", "at", "count", "longest"] (spD ⟨P, w, K, tb⟩ [.sc, .fr, .fr, .fr] .fr (ap4 m__law_seen_any)) := by
  refine f_ok F sc__law_seen_any rfl (by decide) fun cdv A outer s H E ds hr hd => ?_
  obtain ⟨a0, a1, a2, a3, rfl⟩ := len4 hd
  show PSs _ _ (tS _ [.sc, .fr, .fr, .fr, .un] [a0, a1, a2, a3, PyData.none] _ (m__law_seen_any a0 a1 a2 a3))
  unfold m__law_seen_any
  exact (s_asg sc__law_seen_any.nd (i := 4) rfl (by first | exact Or.inl rfl | exact Or.inr (Or.inl rfl) | exact Or.inr (Or.inr rfl) | exact Or.inr rfl) (by decide) (O_toE (e_call C__law_seen hr (by decide) (by rfl) (a_cons (st_scr _) (e_sc (i := 0) rfl (by first | exact Or.inl rfl | exact Or.inr (Or.inl rfl) | exact Or.inr (Or.inr rfl) | exact Or.inr rfl) rfl rfl) (a_cons (st_rep _) (e_fr (i := 1) rfl (by first | exact Or.inl rfl | exact Or.inr (Or.inl rfl) | exact Or.inr (Or.inr rfl) | exact Or.inr rfl) rfl rfl) (a_cons (st_rep _) (e_fr (i := 2) rfl (by first | exact Or.inl rfl | exact Or.inr (Or.inl rfl) | exact Or.inr (Or.inr rfl) | exact Or.inr rfl) rfl rfl) (a_cons (st_rep _) (e_fr (i := 3) rfl (by first | exact Or.inl rfl | exact Or.inr (Or.inl rfl) | exact Or.inr (Or.inr rfl) | exact Or.inr rfl) rfl rfl) a_nil)))) rfl)) (fun d1 =>
(s_jn (emb := fun (t3 : Unit) => [PyData.none, PyData.none, PyData.none, PyData.none, d1]) (sh' := [.un, .un, .un, .un, .fr]) (fun k2 => z_if (y_cmp (o_eq hr) (O_toV (x_bin o_mod (O_toV (e_t1 o_int (st_view _) (by rfl) B.n_int bt_int (toV (x_ix (toV (O_toE (e_call C__law_draws hr (by decide) (by rfl) (a_cons (st_rep _) (O_toE (e_call C__law_cell hr (by decide) (by rfl) (a_cons (st_scr _) (e_sc (i := 0) rfl (by first | exact Or.inl rfl | exact Or.inr (Or.inl rfl) | exact Or.inr (Or.inr rfl) | exact Or.inr rfl) rfl rfl) (a_cons (st_rep _) (e_fr (i := 1) rfl (by first | exact Or.inl rfl | exact Or.inr (Or.inl rfl) | exact Or.inr (Or.inr rfl) | exact Or.inr rfl) rfl rfl) a_nil)) rfl)) (a_cons (st_rep _) e_int a_nil)) rfl))) (toV e_int))))) (toV e_int))) (toV e_int) (nomark _))
(s_one (z_ret rfl (x_tup (a_cons (st_rep _) (x_ix (toV (e_fr (i := 4) rfl (by first | exact Or.inl rfl | exact Or.inr (Or.inl rfl) | exact Or.inr (Or.inr rfl) | exact Or.inr rfl) rfl rfl)) (toV e_int)) (a_cons (st_rep _) (O_toE (e_call C__law_long_runs hr (by decide) (by rfl) (a_cons (st_rep _) (O_toE (e_call C__law_cell hr (by decide) (by rfl) (a_cons (st_scr _) (e_sc (i := 0) rfl (by first | exact Or.inl rfl | exact Or.inr (Or.inl rfl) | exact Or.inr (Or.inr rfl) | exact Or.inr rfl) rfl rfl) (a_cons (st_rep _) (O_toE (x_bin o_add (toV (e_fr (i := 1) rfl (by first | exact Or.inl rfl | exact Or.inr (Or.inl rfl) | exact Or.inr (Or.inr rfl) | exact Or.inr rfl) rfl rfl)) (toV e_int))) a_nil)) rfl)) (a_cons (st_rep _) (x_ix (toV (e_fr (i := 4) rfl (by first | exact Or.inl rfl | exact Or.inr (Or.inl rfl) | exact Or.inr (Or.inr rfl) | exact Or.inr rfl) rfl rfl)) (toV e_int)) a_nil)) rfl)) (a_cons (st_rep _) (x_ix (toV (e_fr (i := 4) rfl (by first | exact Or.inl rfl | exact Or.inr (Or.inl rfl) | exact Or.inr (Or.inr rfl) | exact Or.inr rfl) rfl rfl)) (toV e_int)) a_nil))) (hp1 (hp1 (hp1 hp0))) (by decide) rfl) (by exact (fun d r h => Option.some.inj h))))
(s_nil (env' := [PyData.none, PyData.none, PyData.none, PyData.none, d1]) (fun r h => ⟨(), rfl, h⟩) ⟨.inr rfl, .inr rfl, .inr rfl, .inr rfl, .inl ⟨rfl, rfl⟩, trivial⟩)) (fun t3 =>
(s_one (z_ret rfl (e_fr (i := 4) rfl (by first | exact Or.inl rfl | exact Or.inr (Or.inl rfl) | exact Or.inr (Or.inr rfl) | exact Or.inr rfl) rfl rfl) (by exact (fun d r h => Option.some.inj h))))))))
abbrev st__law_drawn_line : Stmt := topS 18
theorem sc__law_drawn_line : FnScope ["known", "k", "draws", "i", "first", "found", "j", "n", "m", "new", "corner", "ways", "h"] ["known", "k", "draws"] (defScope st__law_drawn_line) := ⟨rfl, rfl, rfl, by decide +kernel, rfl, by decide +kernel, by decide +kernel⟩
theorem ok__law_drawn_line {P : Program} {w : World} {K : PySem.W.Frag} {mg : Str → Option Value} {base : Heap} {f : Addr} {fd : FuncData} {tb : Addr → Prop} (F : Fun K "_law_drawn_line" "_law_drawn_line" st__law_drawn_line f fd) (B : Bi mg) : FnOk P w K mg base CX0 1 f fd ["known", "k", "draws"] (spD ⟨P, w, K, tb⟩ [.fr, .fr, .fr] .fr (ap3 m__law_drawn_line)) := by
  refine f_ok F sc__law_drawn_line rfl (by decide) fun cdv A outer s H E ds hr hd => ?_
  obtain ⟨a0, a1, a2, rfl⟩ := len3 hd
  show PSs _ _ (tS _ [.fr, .fr, .fr, .un, .un, .un, .un, .un, .un, .un, .un, .un, .un] [a0, a1, a2, PyData.none, PyData.none, PyData.none, PyData.none, PyData.none, PyData.none, PyData.none, PyData.none, PyData.none, PyData.none] _ (m__law_drawn_line a0 a1 a2))
  unfold m__law_drawn_line
  exact (s_asg sc__law_drawn_line.nd (i := 3) rfl (by first | exact Or.inl rfl | exact Or.inr (Or.inl rfl) | exact Or.inr (Or.inr rfl) | exact Or.inr rfl) (by decide) (O_toE (x_bin o_mod (O_toV (e_t1 o_int (st_view _) (by rfl) B.n_int bt_int (toV (x_ix (toV (e_fr (i := 2) rfl (by first | exact Or.inl rfl | exact Or.inr (Or.inl rfl) | exact Or.inr (Or.inr rfl) | exact Or.inr rfl) rfl rfl)) (toV e_int))))) (O_toV (e_b1 o_len (st_view _) (by rfl) B.n_len bt_len (toV (e_fr (i := 0) rfl (by first | exact Or.inl rfl | exact Or.inr (Or.inl rfl) | exact Or.inr (Or.inr rfl) | exact Or.inr rfl) rfl rfl)))))) (fun d1 =>
(s_asg sc__law_drawn_line.nd (i := 4) rfl (by first | exact Or.inl rfl | exact Or.inr (Or.inl rfl) | exact Or.inr (Or.inr rfl) | exact Or.inr rfl) (by decide) (x_ix (toV (e_fr (i := 0) rfl (by first | exact Or.inl rfl | exact Or.inr (Or.inl rfl) | exact Or.inr (Or.inr rfl) | exact Or.inr rfl) rfl rfl)) (toV (e_fr (i := 3) rfl (by first | exact Or.inl rfl | exact Or.inr (Or.inl rfl) | exact Or.inr (Or.inr rfl) | exact Or.inr rfl) rfl rfl))) (fun d2 =>
(s_own (T := .any) sc__law_drawn_line.nd (i := 5) rfl (by first | exact Or.inl rfl | exact Or.inr (Or.inl rfl) | exact Or.inr (Or.inr rfl) | exact Or.inr rfl) (by decide) (x_lst a_nil hp0 (by decide) rfl) (fun d3 =>
(s_jn (emb := fun (t6 : PyData) => [a0, a1, a2, d1, d2, t6, PyData.none, PyData.none, PyData.none, PyData.none, PyData.none, PyData.none, PyData.none]) (sh' := [.fr, .fr, .fr, .fr, .fr, .ow .any, .un, .un, .un, .un, .un, .un, .un]) (fun k4 => z_for (t0 := d3) PassesOwn.never rfl ⟨.inl ⟨rfl, rfl⟩, .inl ⟨rfl, rfl⟩, .inl ⟨rfl, rfl⟩, .inl ⟨rfl, rfl⟩, .inl ⟨rfl, rfl⟩, .inl ⟨rfl, rfl⟩, .inr rfl, .inr rfl, .inr rfl, .inr rfl, .inr rfl, .inr rfl, .inr rfl, trivial⟩ (i_rng1 (by rfl) B.n_range (O_toE (e_b1 o_len (st_view _) (by rfl) B.n_len bt_len (toV (e_fr (i := 0) rfl (by first | exact Or.inl rfl | exact Or.inr (Or.inl rfl) | exact Or.inr (Or.inr rfl) | exact Or.inr rfl) rfl rfl))))) (fun t5 => (g_name (i := 6) sc__law_drawn_line.nd rfl (by first | exact Or.inl rfl | exact Or.inr (Or.inl rfl) | exact Or.inr (Or.inr rfl) | exact Or.inr rfl) (by decide))) (fun t5 z19 =>
(s_jn (emb := fun (t22 : PyData) => [a0, a1, a2, d1, d2, t22, z19, PyData.none, PyData.none, PyData.none, PyData.none, PyData.none, PyData.none]) (sh' := [.fr, .fr, .fr, .fr, .fr, .ow .any, .fr, .un, .un, .un, .un, .un, .un]) (fun k20 => z_for (t0 := t5) PassesOwn.never rfl ⟨.inl ⟨rfl, rfl⟩, .inl ⟨rfl, rfl⟩, .inl ⟨rfl, rfl⟩, .inl ⟨rfl, rfl⟩, .inl ⟨rfl, rfl⟩, .inl ⟨rfl, rfl⟩, .inl ⟨rfl, rfl⟩, .inr rfl, .inr rfl, .inr rfl, .inr rfl, .inr rfl, .inr rfl, trivial⟩ (x_rng2 (by rfl) B.n_range (e_fr (i := 1) rfl (by first | exact Or.inl rfl | exact Or.inr (Or.inl rfl) | exact Or.inr (Or.inr rfl) | exact Or.inr rfl) rfl rfl) (O_toE (x_bin o_add (O_toV (e_b1 o_len (st_view _) (by rfl) B.n_len bt_len (toV (x_ix (toV (e_fr (i := 0) rfl (by first | exact Or.inl rfl | exact Or.inr (Or.inl rfl) | exact Or.inr (Or.inr rfl) | exact Or.inr rfl) rfl rfl)) (toV (e_fr (i := 6) rfl (by first | exact Or.inl rfl | exact Or.inr (Or.inl rfl) | exact Or.inr (Or.inr rfl) | exact Or.inr rfl) rfl rfl)))))) (toV e_int)))) (fun t21 => (g_name (i := 7) sc__law_drawn_line.nd rfl (by first | exact Or.inl rfl | exact Or.inr (Or.inl rfl) | exact Or.inr (Or.inr rfl) | exact Or.inr rfl) (by decide))) (fun t21 z23 =>
(s_asg sc__law_drawn_line.nd (i := 8) rfl (by first | exact Or.inl rfl | exact Or.inr (Or.inl rfl) | exact Or.inr (Or.inr rfl) | exact Or.inr rfl) (by decide) (O_toE (x_bin o_add (O_toV (x_bin o_sub (O_toV (e_b1 o_len (st_view _) (by rfl) B.n_len bt_len (toV (e_fr (i := 4) rfl (by first | exact Or.inl rfl | exact Or.inr (Or.inl rfl) | exact Or.inr (Or.inr rfl) | exact Or.inr rfl) rfl rfl)))) (O_toV (e_b1 o_len (st_view _) (by rfl) B.n_len bt_len (toV (x_ix (toV (e_fr (i := 0) rfl (by first | exact Or.inl rfl | exact Or.inr (Or.inl rfl) | exact Or.inr (Or.inr rfl) | exact Or.inr rfl) rfl rfl)) (toV (e_fr (i := 6) rfl (by first | exact Or.inl rfl | exact Or.inr (Or.inl rfl) | exact Or.inr (Or.inr rfl) | exact Or.inr rfl) rfl rfl)))))))) (toV (e_fr (i := 7) rfl (by first | exact Or.inl rfl | exact Or.inr (Or.inl rfl) | exact Or.inr (Or.inr rfl) | exact Or.inr rfl) rfl rfl)))) (fun d24 =>
(s_one (z_if (PW.pt (w_and (y_cmp (o_ge hr) (toV (e_fr (i := 8) rfl (by first | exact Or.inl rfl | exact Or.inr (Or.inl rfl) | exact Or.inr (Or.inr rfl) | exact Or.inr rfl) rfl rfl)) (toV (e_fr (i := 1) rfl (by first | exact Or.inl rfl | exact Or.inr (Or.inl rfl) | exact Or.inr (Or.inr rfl) | exact Or.inr rfl) rfl rfl)) (nomark _)) (w_and (y_cmp (o_eq hr) (O_toV (x_sl (toV (x_ix (toV (e_fr (i := 0) rfl (by first | exact Or.inl rfl | exact Or.inr (Or.inl rfl) | exact Or.inr (Or.inr rfl) | exact Or.inr rfl) rfl rfl)) (toV (e_fr (i := 6) rfl (by first | exact Or.inl rfl | exact Or.inr (Or.inl rfl) | exact Or.inr (Or.inr rfl) | exact Or.inr rfl) rfl rfl)))) (x_some (e_fr (i := 7) rfl (by first | exact Or.inl rfl | exact Or.inr (Or.inl rfl) | exact Or.inr (Or.inr rfl) | exact Or.inr rfl) rfl rfl)) p_none)) (O_toV (x_sl (toV (e_fr (i := 4) rfl (by first | exact Or.inl rfl | exact Or.inr (Or.inl rfl) | exact Or.inr (Or.inr rfl) | exact Or.inr rfl) rfl rfl)) (x_some (e_fr (i := 8) rfl (by first | exact Or.inl rfl | exact Or.inr (Or.inl rfl) | exact Or.inr (Or.inr rfl) | exact Or.inr rfl) rfl rfl)) p_none)) (nomark _)) (w_and1 (y_cmp (o_eq hr) (O_toV (x_sl (toV (x_ix (toV (e_fr (i := 0) rfl (by first | exact Or.inl rfl | exact Or.inr (Or.inl rfl) | exact Or.inr (Or.inr rfl) | exact Or.inr rfl) rfl rfl)) (toV (e_fr (i := 6) rfl (by first | exact Or.inl rfl | exact Or.inr (Or.inl rfl) | exact Or.inr (Or.inr rfl) | exact Or.inr rfl) rfl rfl)))) (x_some (O_toE (x_bin o_sub (toV (e_fr (i := 7) rfl (by first | exact Or.inl rfl | exact Or.inr (Or.inl rfl) | exact Or.inr (Or.inr rfl) | exact Or.inr rfl) rfl rfl)) (toV (e_fr (i := 1) rfl (by first | exact Or.inl rfl | exact Or.inr (Or.inl rfl) | exact Or.inr (Or.inr rfl) | exact Or.inr rfl) rfl rfl))))) (x_some (e_fr (i := 7) rfl (by first | exact Or.inl rfl | exact Or.inr (Or.inl rfl) | exact Or.inr (Or.inr rfl) | exact Or.inr rfl) rfl rfl)))) (O_toV (x_sl (toV (e_fr (i := 4) rfl (by first | exact Or.inl rfl | exact Or.inr (Or.inl rfl) | exact Or.inr (Or.inr rfl) | exact Or.inr rfl) rfl rfl)) (x_some (O_toE (x_bin o_sub (toV (e_fr (i := 8) rfl (by first | exact Or.inl rfl | exact Or.inr (Or.inl rfl) | exact Or.inr (Or.inr rfl) | exact Or.inr rfl) rfl rfl)) (toV (e_fr (i := 1) rfl (by first | exact Or.inl rfl | exact Or.inr (Or.inl rfl) | exact Or.inr (Or.inr rfl) | exact Or.inr rfl) rfl rfl))))) (x_some (e_fr (i := 8) rfl (by first | exact Or.inl rfl | exact Or.inr (Or.inl rfl) | exact Or.inr (Or.inr rfl) | exact Or.inr rfl) rfl rfl)))) (nomark _))))))
(s_app (i := 5) rfl rfl (pe_bm PySem.F.plainAttrs_list PySem.F.slot_list_append PySem.F.type_list_append mt_append (pe_var (i := 5) rfl (by first | exact Or.inl rfl | exact Or.inr (Or.inl rfl) | exact Or.inr (Or.inr rfl) | exact Or.inr rfl) (by decide) (by decide)) (pa_cons (x_tup (a_cons (st_rep _) (e_fr (i := 6) rfl (by first | exact Or.inl rfl | exact Or.inr (Or.inl rfl) | exact Or.inr (Or.inr rfl) | exact Or.inr rfl) rfl rfl) (a_cons (st_rep _) (e_fr (i := 8) rfl (by first | exact Or.inl rfl | exact Or.inr (Or.inl rfl) | exact Or.inr (Or.inr rfl) | exact Or.inr rfl) rfl rfl) (a_cons (st_rep _) (e_fr (i := 7) rfl (by first | exact Or.inl rfl | exact Or.inr (Or.inl rfl) | exact Or.inr (Or.inr rfl) | exact Or.inr rfl) rfl rfl) a_nil))) (hp1 (hp1 (hp1 hp0))) (by decide) rfl) pa_nil)) (fun d25 =>
(s_nil (env' := [a0, a1, a2, d1, d2, d25, z19, PyData.none, PyData.none, PyData.none, PyData.none, PyData.none, PyData.none]) (fun r h => ⟨d25, rfl, (Option.some.inj h).symm⟩) ⟨.inl ⟨rfl, rfl⟩, .inl ⟨rfl, rfl⟩, .inl ⟨rfl, rfl⟩, .inl ⟨rfl, rfl⟩, .inl ⟨rfl, rfl⟩, .inl ⟨rfl, rfl⟩, .inl ⟨rfl, rfl⟩, .inr rfl, .inr rfl, .inr rfl, .inr rfl, .inr rfl, .inr rfl, trivial⟩)))
(s_nil (env' := [a0, a1, a2, d1, d2, t21, z19, PyData.none, PyData.none, PyData.none, PyData.none, PyData.none, PyData.none]) (fun r h => ⟨t21, rfl, (Option.some.inj h).symm⟩) ⟨.inl ⟨rfl, rfl⟩, .inl ⟨rfl, rfl⟩, .inl ⟨rfl, rfl⟩, .inl ⟨rfl, rfl⟩, .inl ⟨rfl, rfl⟩, .inl ⟨rfl, rfl⟩, .inl ⟨rfl, rfl⟩, .inr rfl, .inr rfl, .inr rfl, .inr rfl, .inr rfl, .inr rfl, trivial⟩))))))) (fun t22 =>
(s_nil (env' := [a0, a1, a2, d1, d2, t22, PyData.none, PyData.none, PyData.none, PyData.none, PyData.none, PyData.none, PyData.none]) (fun r h => ⟨t22, rfl, (Option.some.inj h).symm⟩) ⟨.inl ⟨rfl, rfl⟩, .inl ⟨rfl, rfl⟩, .inl ⟨rfl, rfl⟩, .inl ⟨rfl, rfl⟩, .inl ⟨rfl, rfl⟩, .inl ⟨rfl, rfl⟩, .inr rfl, .inr rfl, .inr rfl, .inr rfl, .inr rfl, .inr rfl, .inr rfl, trivial⟩))))) (fun t6 =>
(s_frz 5 rfl rfl
(z_lcO [("corner", 10)] rfl sc__law_drawn_line.nd (i := 9) rfl rfl (by decide) (by rfl) (i_any (e_fr (i := 5) rfl (by first | exact Or.inl rfl | exact Or.inr (Or.inl rfl) | exact Or.inr (Or.inr rfl) | exact Or.inr rfl) rfl rfl)) (blkOk_by (by rfl)) (by decide) (av (.inl rfl) av0) (fun _ _ _ _ _ => (g_name (i := 10) sc__law_drawn_line.nd rfl (by first | exact Or.inl rfl | exact Or.inr (Or.inl rfl) | exact Or.inr (Or.inr rfl) | exact Or.inr rfl) (by decide))) (fun _ _ _ _ _ => (ts_one fun z8 => (y_cmp (o_ne hr) (O_toV (x_sl (toV (x_ix (toV (e_fr (i := 0) rfl (by first | exact Or.inl rfl | exact Or.inr (Or.inl rfl) | exact Or.inr (Or.inr rfl) | exact Or.inr rfl) rfl rfl)) (toV (x_ix (toV (e_fr (i := 10) rfl (by first | exact Or.inl rfl | exact Or.inr (Or.inl rfl) | exact Or.inr (Or.inr rfl) | exact Or.inr rfl) rfl rfl)) (toV e_int))))) p_none (x_some (x_ix (toV (e_fr (i := 10) rfl (by first | exact Or.inl rfl | exact Or.inr (Or.inl rfl) | exact Or.inr (Or.inr rfl) | exact Or.inr rfl) rfl rfl)) (toV e_int))))) (O_toV (x_sl (toV (e_fr (i := 4) rfl (by first | exact Or.inl rfl | exact Or.inr (Or.inl rfl) | exact Or.inr (Or.inr rfl) | exact Or.inr rfl) rfl rfl)) p_none (x_some (x_ix (toV (e_fr (i := 10) rfl (by first | exact Or.inl rfl | exact Or.inr (Or.inl rfl) | exact Or.inr (Or.inr rfl) | exact Or.inr rfl) rfl rfl)) (toV e_int))))) (nomark _)))) (fun _ _ _ _ _ z8 => (e_fr (i := 10) rfl (by first | exact Or.inl rfl | exact Or.inr (Or.inl rfl) | exact Or.inr (Or.inr rfl) | exact Or.inr rfl) rfl rfl)) (fun d7 =>
(s_frz 9 rfl rfl
(s_jn (emb := fun (t10 : PyData) => [a0, PyData.none, a2, d1, d2, t10, PyData.none, PyData.none, PyData.none, PyData.none, PyData.none, PyData.none, PyData.none]) (sh' := [.fr, .un, .fr, .fr, .fr, .fr, .un, .un, .un, .un, .un, .un, .un]) (fun k9 => z_if (PW.pt (w_and (y_cmp (o_gt hr) (O_toV (e_b1 o_len (st_view _) (by rfl) B.n_len bt_len (toV (e_fr (i := 9) rfl (by first | exact Or.inl rfl | exact Or.inr (Or.inl rfl) | exact Or.inr (Or.inr rfl) | exact Or.inr rfl) rfl rfl)))) (toV e_int) (nomark _)) (w_and1 (y_cmp (o_ne hr) (O_toV (x_bin o_mod (O_toV (e_t1 o_int (st_view _) (by rfl) B.n_int bt_int (toV (x_ix (toV (e_fr (i := 2) rfl (by first | exact Or.inl rfl | exact Or.inr (Or.inl rfl) | exact Or.inr (Or.inr rfl) | exact Or.inr rfl) rfl rfl)) (toV e_int))))) (toV e_int))) (toV e_int) (nomark _)))))
(s_asg sc__law_drawn_line.nd (i := 5) rfl (by first | exact Or.inl rfl | exact Or.inr (Or.inl rfl) | exact Or.inr (Or.inr rfl) | exact Or.inr rfl) (by decide) (e_fr (i := 9) rfl (by first | exact Or.inl rfl | exact Or.inr (Or.inl rfl) | exact Or.inr (Or.inr rfl) | exact Or.inr rfl) rfl rfl) (fun d11 =>
(s_nil (env' := [a0, PyData.none, a2, d1, d2, d11, PyData.none, PyData.none, PyData.none, PyData.none, PyData.none, PyData.none, PyData.none]) (fun r h => ⟨d11, rfl, h⟩) ⟨.inl ⟨rfl, rfl⟩, .inr rfl, .inl ⟨rfl, rfl⟩, .inl ⟨rfl, rfl⟩, .inl ⟨rfl, rfl⟩, .inl ⟨rfl, rfl⟩, .inr rfl, .inr rfl, .inr rfl, .inr rfl, .inr rfl, .inr rfl, .inr rfl, trivial⟩)))
(s_nil (env' := [a0, PyData.none, a2, d1, d2, t6, PyData.none, PyData.none, PyData.none, PyData.none, PyData.none, PyData.none, PyData.none]) (fun r h => ⟨t6, rfl, h⟩) ⟨.inl ⟨rfl, rfl⟩, .inr rfl, .inl ⟨rfl, rfl⟩, .inl ⟨rfl, rfl⟩, .inl ⟨rfl, rfl⟩, .inl ⟨rfl, rfl⟩, .inr rfl, .inr rfl, .inr rfl, .inr rfl, .inr rfl, .inr rfl, .inr rfl, trivial⟩)) (fun t10 =>
(s_jn (emb := fun (t13 : Unit) => [a0, PyData.none, a2, d1, d2, t10, PyData.none, PyData.none, PyData.none, PyData.none, PyData.none, PyData.none, PyData.none]) (sh' := [.fr, .un, .fr, .fr, .fr, .fr, .un, .un, .un, .un, .un, .un, .un]) (fun k12 => z_if (y_cmp (o_eq hr) (O_toV (e_b1 o_len (st_view _) (by rfl) B.n_len bt_len (toV (e_fr (i := 5) rfl (by first | exact Or.inl rfl | exact Or.inr (Or.inl rfl) | exact Or.inr (Or.inr rfl) | exact Or.inr rfl) rfl rfl)))) (toV e_int) (nomark _))
(s_one (z_ret rfl e_non (by exact (fun d r h => Option.some.inj h))))
(s_nil (env' := [a0, PyData.none, a2, d1, d2, t10, PyData.none, PyData.none, PyData.none, PyData.none, PyData.none, PyData.none, PyData.none]) (fun r h => ⟨(), rfl, h⟩) ⟨.inl ⟨rfl, rfl⟩, .inr rfl, .inl ⟨rfl, rfl⟩, .inl ⟨rfl, rfl⟩, .inl ⟨rfl, rfl⟩, .inl ⟨rfl, rfl⟩, .inr rfl, .inr rfl, .inr rfl, .inr rfl, .inr rfl, .inr rfl, .inr rfl, trivial⟩)) (fun t13 =>
(s_asg sc__law_drawn_line.nd (i := 10) rfl (by first | exact Or.inl rfl | exact Or.inr (Or.inl rfl) | exact Or.inr (Or.inr rfl) | exact Or.inr rfl) (by decide) (x_ix (toV (e_fr (i := 5) rfl (by first | exact Or.inl rfl | exact Or.inr (Or.inl rfl) | exact Or.inr (Or.inr rfl) | exact Or.inr rfl) rfl rfl)) (O_toV (x_bin o_mod (O_toV (e_t1 o_int (st_view _) (by rfl) B.n_int bt_int (toV (x_ix (toV (e_fr (i := 2) rfl (by first | exact Or.inl rfl | exact Or.inr (Or.inl rfl) | exact Or.inr (Or.inr rfl) | exact Or.inr rfl) rfl rfl)) (toV e_int))))) (O_toV (e_b1 o_len (st_view _) (by rfl) B.n_len bt_len (toV (e_fr (i := 5) rfl (by first | exact Or.inl rfl | exact Or.inr (Or.inl rfl) | exact Or.inr (Or.inr rfl) | exact Or.inr rfl) rfl rfl))))))) (fun d14 =>
(s_asg sc__law_drawn_line.nd (i := 8) rfl (by first | exact Or.inl rfl | exact Or.inr (Or.inl rfl) | exact Or.inr (Or.inr rfl) | exact Or.inr rfl) (by decide) (x_ix (toV (e_fr (i := 10) rfl (by first | exact Or.inl rfl | exact Or.inr (Or.inl rfl) | exact Or.inr (Or.inr rfl) | exact Or.inr rfl) rfl rfl)) (toV e_int)) (fun d15 =>
(z_lcO [("h", 12)] rfl sc__law_drawn_line.nd (i := 11) rfl rfl (by decide) (by rfl) (i_rng1 (by rfl) B.n_range (O_toE (e_b1 o_len (st_view _) (by rfl) B.n_len bt_len (toV (e_fr (i := 0) rfl (by first | exact Or.inl rfl | exact Or.inr (Or.inl rfl) | exact Or.inr (Or.inr rfl) | exact Or.inr rfl) rfl rfl))))) (blkOk_by (by rfl)) (by decide) (av (.inl rfl) av0) (fun _ _ _ _ _ => (g_name (i := 12) sc__law_drawn_line.nd rfl (by first | exact Or.inl rfl | exact Or.inr (Or.inl rfl) | exact Or.inr (Or.inr rfl) | exact Or.inr rfl) (by decide))) (fun _ _ _ _ _ => (ts_one fun z17 => (PW.pt (w_and (y_cmp (o_ge hr) (O_toV (e_b1 o_len (st_view _) (by rfl) B.n_len bt_len (toV (x_ix (toV (e_fr (i := 0) rfl (by first | exact Or.inl rfl | exact Or.inr (Or.inl rfl) | exact Or.inr (Or.inr rfl) | exact Or.inr rfl) rfl rfl)) (toV (e_fr (i := 12) rfl (by first | exact Or.inl rfl | exact Or.inr (Or.inl rfl) | exact Or.inr (Or.inr rfl) | exact Or.inr rfl) rfl rfl)))))) (toV (e_fr (i := 8) rfl (by first | exact Or.inl rfl | exact Or.inr (Or.inl rfl) | exact Or.inr (Or.inr rfl) | exact Or.inr rfl) rfl rfl)) (nomark _)) (w_and1 (y_cmp (o_eq hr) (O_toV (x_sl (toV (x_ix (toV (e_fr (i := 0) rfl (by first | exact Or.inl rfl | exact Or.inr (Or.inl rfl) | exact Or.inr (Or.inr rfl) | exact Or.inr rfl) rfl rfl)) (toV (e_fr (i := 12) rfl (by first | exact Or.inl rfl | exact Or.inr (Or.inl rfl) | exact Or.inr (Or.inr rfl) | exact Or.inr rfl) rfl rfl)))) p_none (x_some (e_fr (i := 8) rfl (by first | exact Or.inl rfl | exact Or.inr (Or.inl rfl) | exact Or.inr (Or.inr rfl) | exact Or.inr rfl) rfl rfl)))) (O_toV (x_sl (toV (e_fr (i := 4) rfl (by first | exact Or.inl rfl | exact Or.inr (Or.inl rfl) | exact Or.inr (Or.inr rfl) | exact Or.inr rfl) rfl rfl)) p_none (x_some (e_fr (i := 8) rfl (by first | exact Or.inl rfl | exact Or.inr (Or.inl rfl) | exact Or.inr (Or.inr rfl) | exact Or.inr rfl) rfl rfl)))) (nomark _))))))) (fun _ _ _ _ _ z17 => (e_fr (i := 12) rfl (by first | exact Or.inl rfl | exact Or.inr (Or.inl rfl) | exact Or.inr (Or.inr rfl) | exact Or.inr rfl) rfl rfl)) (fun d16 =>
(s_frz 11 rfl rfl
(s_asg sc__law_drawn_line.nd (i := 12) rfl (by first | exact Or.inl rfl | exact Or.inr (Or.inl rfl) | exact Or.inr (Or.inr rfl) | exact Or.inr rfl) (by decide) (x_ix (toV (e_fr (i := 11) rfl (by first | exact Or.inl rfl | exact Or.inr (Or.inl rfl) | exact Or.inr (Or.inr rfl) | exact Or.inr rfl) rfl rfl)) (O_toV (x_bin o_mod (O_toV (x_bin o_fdiv (O_toV (e_t1 o_int (st_view _) (by rfl) B.n_int bt_int (toV (x_ix (toV (e_fr (i := 2) rfl (by first | exact Or.inl rfl | exact Or.inr (Or.inl rfl) | exact Or.inr (Or.inr rfl) | exact Or.inr rfl) rfl rfl)) (toV e_int))))) (toV e_int))) (O_toV (e_b1 o_len (st_view _) (by rfl) B.n_len bt_len (toV (e_fr (i := 11) rfl (by first | exact Or.inl rfl | exact Or.inr (Or.inl rfl) | exact Or.inr (Or.inr rfl) | exact Or.inr rfl) rfl rfl))))))) (fun d18 =>
(s_one (z_ret rfl (x_tup (a_cons (st_rep _) (O_toE (x_bin o_add (O_toV (x_sl (toV (x_ix (toV (e_fr (i := 0) rfl (by first | exact Or.inl rfl | exact Or.inr (Or.inl rfl) | exact Or.inr (Or.inr rfl) | exact Or.inr rfl) rfl rfl)) (toV (x_ix (toV (e_fr (i := 10) rfl (by first | exact Or.inl rfl | exact Or.inr (Or.inl rfl) | exact Or.inr (Or.inr rfl) | exact Or.inr rfl) rfl rfl)) (toV e_int))))) p_none (x_some (x_ix (toV (e_fr (i := 10) rfl (by first | exact Or.inl rfl | exact Or.inr (Or.inl rfl) | exact Or.inr (Or.inr rfl) | exact Or.inr rfl) rfl rfl)) (toV e_int))))) (O_toV (x_sl (toV (x_ix (toV (e_fr (i := 0) rfl (by first | exact Or.inl rfl | exact Or.inr (Or.inl rfl) | exact Or.inr (Or.inr rfl) | exact Or.inr rfl) rfl rfl)) (toV (e_fr (i := 12) rfl (by first | exact Or.inl rfl | exact Or.inr (Or.inl rfl) | exact Or.inr (Or.inr rfl) | exact Or.inr rfl) rfl rfl)))) (x_some (e_fr (i := 8) rfl (by first | exact Or.inl rfl | exact Or.inr (Or.inl rfl) | exact Or.inr (Or.inr rfl) | exact Or.inr rfl) rfl rfl)) p_none)))) (a_cons (st_rep _) (x_tup (a_cons (st_rep _) (e_fr (i := 3) rfl (by first | exact Or.inl rfl | exact Or.inr (Or.inl rfl) | exact Or.inr (Or.inr rfl) | exact Or.inr rfl) rfl rfl) (a_cons (st_rep _) (x_ix (toV (e_fr (i := 10) rfl (by first | exact Or.inl rfl | exact Or.inr (Or.inl rfl) | exact Or.inr (Or.inr rfl) | exact Or.inr rfl) rfl rfl)) (toV e_int)) (a_cons (st_rep _) (e_fr (i := 12) rfl (by first | exact Or.inl rfl | exact Or.inr (Or.inl rfl) | exact Or.inr (Or.inr rfl) | exact Or.inr rfl) rfl rfl) (a_cons (st_rep _) (e_fr (i := 8) rfl (by first | exact Or.inl rfl | exact Or.inr (Or.inl rfl) | exact Or.inr (Or.inr rfl) | exact Or.inr rfl) rfl rfl) (a_cons (st_rep _) (x_ix (toV (e_fr (i := 10) rfl (by first | exact Or.inl rfl | exact Or.inr (Or.inl rfl) | exact Or.inr (Or.inr rfl) | exact Or.inr rfl) rfl rfl)) (toV e_int)) a_nil))))) (hp1 (hp1 (hp1 (hp1 (hp1 hp0))))) (by decide) rfl) a_nil)) (hp1 (hp1 hp0)) (by decide) rfl) (by exact (fun d r h => Option.some.inj h)))))))))))))))))))))))))))))
abbrev st__law_own_lines : Stmt := topS 19
theorem sc__law_own_lines : FnScope ["runs", "k", "draws", "count", "longest", "lines", "at", "line", "run", "other"] ["runs", "k", "draws", "count", "longest"] (defScope st__law_own_lines) := ⟨rfl, rfl, rfl, by decide +kernel, rfl, by decide +kernel, by decide +kernel⟩
theorem ok__law_own_lines {P : Program} {w : World} {K : PySem.W.Frag} {mg : Str → Option Value} {base : Heap} {f : Addr} {fd : FuncData} {tb : Addr → Prop} (F : Fun K "_law_own_lines" "_law_own_lines" st__law_own_lines f fd) (B : Bi mg) (C__law_drawn_line : CallOk ⟨P, w, K, tb⟩ mg base "_law_drawn_line" 1 [.fr, .fr, .fr] .fr (ap3 m__law_drawn_line)) : FnOk P w K mg base CX0 2 f fd ["runs", "k", "draws", "count", "longest"] (spD ⟨P, w, K, tb⟩ [.fr, .fr, .fr, .fr, .fr] .fr (ap5 m__law_own_lines)) := by
  refine f_ok F sc__law_own_lines rfl (by decide) fun cdv A outer s H E ds hr hd => ?_
  obtain ⟨a0, a1, a2, a3, a4, rfl⟩ := len5 hd
  show PSs _ _ (tS _ [.fr, .fr, .fr, .fr, .fr, .un, .un, .un, .un, .un] [a0, a1, a2, a3, a4, PyData.none, PyData.none, PyData.none, PyData.none, PyData.none] _ (m__law_own_lines a0 a1 a2 a3 a4))
  unfold m__law_own_lines
  exact (z_lcO [("run", 8)] rfl sc__law_own_lines.nd (i := 5) rfl rfl (by decide) (by rfl) (i_any (e_fr (i := 0) rfl (by first | exact Or.inl rfl | exact Or.inr (Or.inl rfl) | exact Or.inr (Or.inr rfl) | exact Or.inr rfl) rfl rfl)) (blkOk_by (by rfl)) (by decide) (av (.inl rfl) av0) (fun _ _ _ _ _ => (g_name (i := 8) sc__law_own_lines.nd rfl (by first | exact Or.inl rfl | exact Or.inr (Or.inl rfl) | exact Or.inr (Or.inr rfl) | exact Or.inr rfl) (by decide))) (fun _ _ _ _ _ => ts_nil) (fun _ _ _ _ _ z2 => (x_tup (a_cons (st_rep _) (e_fr (i := 8) rfl (by first | exact Or.inl rfl | exact Or.inr (Or.inl rfl) | exact Or.inr (Or.inr rfl) | exact Or.inr rfl) rfl rfl) (a_cons (st_rep _) (x_tup a_nil hp0 (by decide) rfl) a_nil)) (hp1 (hp1 hp0)) (by decide) rfl)) (fun d1 =>
(s_jn (emb := fun (t5 : PyData) => [PyData.none, a1, a2, a3, a4, t5, PyData.none, PyData.none, PyData.none, PyData.none]) (sh' := [.un, .fr, .fr, .fr, .fr, .ow .any, .un, .un, .un, .un]) (fun k3 => z_for (t0 := d1) PassesOwn.never rfl ⟨.inr rfl, .inl ⟨rfl, rfl⟩, .inl ⟨rfl, rfl⟩, .inl ⟨rfl, rfl⟩, .inl ⟨rfl, rfl⟩, .inl ⟨rfl, rfl⟩, .inr rfl, .inr rfl, .inr rfl, .inr rfl, trivial⟩ (i_rng1 (by rfl) B.n_range (e_fr (i := 3) rfl (by first | exact Or.inl rfl | exact Or.inr (Or.inl rfl) | exact Or.inr (Or.inr rfl) | exact Or.inr rfl) rfl rfl)) (fun t4 => (g_name (i := 6) sc__law_own_lines.nd rfl (by first | exact Or.inl rfl | exact Or.inr (Or.inl rfl) | exact Or.inr (Or.inr rfl) | exact Or.inr rfl) (by decide))) (fun t4 z6 =>
(s_one (z_if (y_cmp (o_gt hr) (O_toV (e_b1 o_len (st_view _) (by rfl) B.n_len bt_len (e_ow (i := 5) rfl (by first | exact Or.inl rfl | exact Or.inr (Or.inl rfl) | exact Or.inr (Or.inr rfl) | exact Or.inr rfl) rfl rfl))) (toV e_int) (nomark _))
(s_asg sc__law_own_lines.nd (i := 7) rfl (by first | exact Or.inl rfl | exact Or.inr (Or.inl rfl) | exact Or.inr (Or.inr rfl) | exact Or.inr rfl) (by decide) (e_thaw 5 rfl rfl (O_toE (e_call C__law_drawn_line hr (by decide) (by rfl) (a_cons (st_rep _) (O_toE (x_lc [("other", 9)] rfl sc__law_own_lines.nd (i_any (e_fr (i := 5) rfl (by first | exact Or.inl rfl | exact Or.inr (Or.inl rfl) | exact Or.inr (Or.inr rfl) | exact Or.inr rfl) rfl rfl)) (blkOk_by (by rfl)) (by decide) (av (.inl rfl) av0) (fun _ _ _ _ _ => (g_name (i := 9) sc__law_own_lines.nd rfl (by first | exact Or.inl rfl | exact Or.inr (Or.inl rfl) | exact Or.inr (Or.inr rfl) | exact Or.inr rfl) (by decide))) (fun _ _ _ _ _ => ts_nil) (fun _ _ _ _ _ z8 => (x_ix (toV (e_fr (i := 9) rfl (by first | exact Or.inl rfl | exact Or.inr (Or.inl rfl) | exact Or.inr (Or.inr rfl) | exact Or.inr rfl) rfl rfl)) (toV e_int))))) (a_cons (st_rep _) (e_fr (i := 1) rfl (by first | exact Or.inl rfl | exact Or.inr (Or.inl rfl) | exact Or.inr (Or.inr rfl) | exact Or.inr rfl) rfl rfl) (a_cons (st_rep _) (O_toE (x_sl (toV (e_fr (i := 2) rfl (by first | exact Or.inl rfl | exact Or.inr (Or.inl rfl) | exact Or.inr (Or.inr rfl) | exact Or.inr rfl) rfl rfl)) (x_some (O_toE (x_bin o_mul (toV e_int) (toV (e_fr (i := 6) rfl (by first | exact Or.inl rfl | exact Or.inr (Or.inl rfl) | exact Or.inr (Or.inr rfl) | exact Or.inr rfl) rfl rfl))))) (x_some (O_toE (x_bin o_add (O_toV (x_bin o_mul (toV e_int) (toV (e_fr (i := 6) rfl (by first | exact Or.inl rfl | exact Or.inr (Or.inl rfl) | exact Or.inr (Or.inr rfl) | exact Or.inr rfl) rfl rfl)))) (toV e_int)))))) a_nil))) rfl))) (fun d7 =>
(s_one (z_if (PW.pt (w_and (y_cmp o_isnot (toV (e_fr (i := 7) rfl (by first | exact Or.inl rfl | exact Or.inr (Or.inl rfl) | exact Or.inr (Or.inr rfl) | exact Or.inr rfl) rfl rfl)) (toV e_non) (nomark _)) (w_and1 (y_cmp (o_le hr) (O_toV (e_b1 o_len (st_view _) (by rfl) B.n_len bt_len (toV (x_ix (toV (e_fr (i := 7) rfl (by first | exact Or.inl rfl | exact Or.inr (Or.inl rfl) | exact Or.inr (Or.inr rfl) | exact Or.inr rfl) rfl rfl)) (toV e_int))))) (toV (e_fr (i := 4) rfl (by first | exact Or.inl rfl | exact Or.inr (Or.inl rfl) | exact Or.inr (Or.inr rfl) | exact Or.inr rfl) rfl rfl)) (nomark _)))))
(s_app (i := 5) rfl rfl (pe_bm PySem.F.plainAttrs_list PySem.F.slot_list_append PySem.F.type_list_append mt_append (pe_var (i := 5) rfl (by first | exact Or.inl rfl | exact Or.inr (Or.inl rfl) | exact Or.inr (Or.inr rfl) | exact Or.inr rfl) (by decide) (by decide)) (pa_cons (e_fr (i := 7) rfl (by first | exact Or.inl rfl | exact Or.inr (Or.inl rfl) | exact Or.inr (Or.inr rfl) | exact Or.inr rfl) rfl rfl) pa_nil)) (fun d9 =>
(s_nil (env' := [PyData.none, a1, a2, a3, a4, d9, PyData.none, PyData.none, PyData.none, PyData.none]) (fun r h => ⟨d9, rfl, (Option.some.inj h).symm⟩) ⟨.inr rfl, .inl ⟨rfl, rfl⟩, .inl ⟨rfl, rfl⟩, .inl ⟨rfl, rfl⟩, .inl ⟨rfl, rfl⟩, .inl ⟨rfl, rfl⟩, .inr rfl, .inr rfl, .inr rfl, .inr rfl, trivial⟩)))
(s_nil (env' := [PyData.none, a1, a2, a3, a4, t4, PyData.none, PyData.none, PyData.none, PyData.none]) (fun r h => ⟨t4, rfl, (Option.some.inj h).symm⟩) ⟨.inr rfl, .inl ⟨rfl, rfl⟩, .inl ⟨rfl, rfl⟩, .inl ⟨rfl, rfl⟩, .inl ⟨rfl, rfl⟩, .inl ⟨rfl, rfl⟩, .inr rfl, .inr rfl, .inr rfl, .inr rfl, trivial⟩)))))
(s_nil (env' := [PyData.none, a1, a2, a3, a4, t4, PyData.none, PyData.none, PyData.none, PyData.none]) (fun r h => ⟨t4, rfl, (Option.some.inj h).symm⟩) ⟨.inr rfl, .inl ⟨rfl, rfl⟩, .inl ⟨rfl, rfl⟩, .inl ⟨rfl, rfl⟩, .inl ⟨rfl, rfl⟩, .inl ⟨rfl, rfl⟩, .inr rfl, .inr rfl, .inr rfl, .inr rfl, trivial⟩))))) (fun t5 =>
(s_frz 5 rfl rfl
(s_one (z_ret rfl (e_fr (i := 5) rfl (by first | exact Or.inl rfl | exact Or.inr (Or.inl rfl) | exact Or.inr (Or.inr rfl) | exact Or.inr rfl) rfl rfl) (by exact (fun d r h => Option.some.inj h)))))))))
abbrev st__law_spoilt_number : Stmt := topS 20
theorem sc__law_spoilt_number : FnScope ["lines", "at", "k", "draws", "reason", "place", "value", "size", "more"] ["lines", "at", "k", "draws"] (defScope st__law_spoilt_number) := ⟨rfl, rfl, rfl, by decide +kernel, rfl, by decide +kernel, by decide +kernel⟩
theorem ok__law_spoilt_number {P : Program} {w : World} {K : PySem.W.Frag} {mg : Str → Option Value} {base : Heap} {f : Addr} {fd : FuncData} {tb : Addr → Prop} (F : Fun K "_law_spoilt_number" "_law_spoilt_number" st__law_spoilt_number f fd) (B : Bi mg) : FnOk P w K mg base CX0 1 f fd ["lines", "at", "k", "draws"] (spD ⟨P, w, K, tb⟩ [.fr, .fr, .fr, .fr] .fr (ap4 m__law_spoilt_number)) := by
  refine f_ok F sc__law_spoilt_number rfl (by decide) fun cdv A outer s H E ds hr hd => ?_
  obtain ⟨a0, a1, a2, a3, rfl⟩ := len4 hd
  show PSs _ _ (tS _ [.fr, .fr, .fr, .fr, .un, .un, .un, .un, .un] [a0, a1, a2, a3, PyData.none, PyData.none, PyData.none, PyData.none, PyData.none] _ (m__law_spoilt_number a0 a1 a2 a3))
  unfold m__law_spoilt_number
  exact (s_asg sc__law_spoilt_number.nd (i := 4) rfl (by first | exact Or.inl rfl | exact Or.inr (Or.inl rfl) | exact Or.inr (Or.inr rfl) | exact Or.inr rfl) (by decide) (x_ix (toV (x_ix (toV (e_fr (i := 0) rfl (by first | exact Or.inl rfl | exact Or.inr (Or.inl rfl) | exact Or.inr (Or.inr rfl) | exact Or.inr rfl) rfl rfl)) (toV (e_fr (i := 1) rfl (by first | exact Or.inl rfl | exact Or.inr (Or.inl rfl) | exact Or.inr (Or.inr rfl) | exact Or.inr rfl) rfl rfl)))) (toV e_int)) (fun d1 =>
(s_asg sc__law_spoilt_number.nd (i := 5) rfl (by first | exact Or.inl rfl | exact Or.inr (Or.inl rfl) | exact Or.inr (Or.inr rfl) | exact Or.inr rfl) (by decide) (O_toE (x_bin o_mod (O_toV (e_t1 o_int (st_view _) (by rfl) B.n_int bt_int (toV (x_ix (toV (e_fr (i := 3) rfl (by first | exact Or.inl rfl | exact Or.inr (Or.inl rfl) | exact Or.inr (Or.inr rfl) | exact Or.inr rfl) rfl rfl)) (toV e_int))))) (toV e_int))) (fun d2 =>
(s_asg sc__law_spoilt_number.nd (i := 6) rfl (by first | exact Or.inl rfl | exact Or.inr (Or.inl rfl) | exact Or.inr (Or.inr rfl) | exact Or.inr rfl) (by decide) (x_ix (toV (e_fr (i := 4) rfl (by first | exact Or.inl rfl | exact Or.inr (Or.inl rfl) | exact Or.inr (Or.inr rfl) | exact Or.inr rfl) rfl rfl)) (toV (e_fr (i := 5) rfl (by first | exact Or.inl rfl | exact Or.inr (Or.inl rfl) | exact Or.inr (Or.inr rfl) | exact Or.inr rfl) rfl rfl))) (fun d3 =>
(s_asg sc__law_spoilt_number.nd (i := 7) rfl (by first | exact Or.inl rfl | exact Or.inr (Or.inl rfl) | exact Or.inr (Or.inr rfl) | exact Or.inr rfl) (by decide) (O_toE (e_b1 o_len (st_view _) (by rfl) B.n_len bt_len (toV (x_ix (toV (x_ix (toV (e_fr (i := 0) rfl (by first | exact Or.inl rfl | exact Or.inr (Or.inl rfl) | exact Or.inr (Or.inr rfl) | exact Or.inr rfl) rfl rfl)) (toV (e_fr (i := 1) rfl (by first | exact Or.inl rfl | exact Or.inr (Or.inl rfl) | exact Or.inr (Or.inr rfl) | exact Or.inr rfl) rfl rfl)))) (toV e_int))))) (fun d4 =>
(s_asg sc__law_spoilt_number.nd (i := 8) rfl (by first | exact Or.inl rfl | exact Or.inr (Or.inl rfl) | exact Or.inr (Or.inr rfl) | exact Or.inr rfl) (by decide) (x_tup (a_cons (st_rep _) (O_toE (x_bin o_add (toV (e_fr (i := 6) rfl (by first | exact Or.inl rfl | exact Or.inr (Or.inl rfl) | exact Or.inr (Or.inr rfl) | exact Or.inr rfl) rfl rfl)) (toV e_int))) (a_cons (st_rep _) (O_toE (x_bin o_sub (toV (e_fr (i := 6) rfl (by first | exact Or.inl rfl | exact Or.inr (Or.inl rfl) | exact Or.inr (Or.inr rfl) | exact Or.inr rfl) rfl rfl)) (toV e_int))) (a_cons (st_rep _) (e_fr (i := 1) rfl (by first | exact Or.inl rfl | exact Or.inr (Or.inl rfl) | exact Or.inr (Or.inr rfl) | exact Or.inr rfl) rfl rfl) (a_cons (st_rep _) (O_toE (x_bin o_add (toV (e_fr (i := 1) rfl (by first | exact Or.inl rfl | exact Or.inr (Or.inl rfl) | exact Or.inr (Or.inr rfl) | exact Or.inr rfl) rfl rfl)) (toV e_int))) (a_cons (st_rep _) (O_toE (x_bin o_sub (toV e_int) (toV e_int))) (a_cons (st_rep _) (O_toE (x_bin o_add (toV (e_fr (i := 7) rfl (by first | exact Or.inl rfl | exact Or.inr (Or.inl rfl) | exact Or.inr (Or.inr rfl) | exact Or.inr rfl) rfl rfl)) (toV e_int))) (a_cons (st_rep _) (O_toE (x_bin o_sub (toV (e_fr (i := 2) rfl (by first | exact Or.inl rfl | exact Or.inr (Or.inl rfl) | exact Or.inr (Or.inr rfl) | exact Or.inr rfl) rfl rfl)) (toV e_int))) (a_cons (st_rep _) (O_toE (x_bin o_add (toV (e_fr (i := 6) rfl (by first | exact Or.inl rfl | exact Or.inr (Or.inl rfl) | exact Or.inr (Or.inr rfl) | exact Or.inr rfl) rfl rfl)) (O_toV (x_bin o_pow (toV e_int) (toV e_int))))) (a_cons (st_rep _) (O_toE (x_bin o_sub (toV e_int) (toV (e_fr (i := 7) rfl (by first | exact Or.inl rfl | exact Or.inr (Or.inl rfl) | exact Or.inr (Or.inr rfl) | exact Or.inr rfl) rfl rfl)))) (a_cons (st_rep _) (e_fr (i := 2) rfl (by first | exact Or.inl rfl | exact Or.inr (Or.inl rfl) | exact Or.inr (Or.inr rfl) | exact Or.inr rfl) rfl rfl) a_nil)))))))))) (hp1 (hp1 (hp1 (hp1 (hp1 (hp1 (hp1 (hp1 (hp1 (hp1 hp0)))))))))) (by decide) rfl) (fun d5 =>
(s_one (z_ret rfl (x_tup (a_cons (st_rep _) (x_ix (toV (x_ix (toV (e_fr (i := 0) rfl (by first | exact Or.inl rfl | exact Or.inr (Or.inl rfl) | exact Or.inr (Or.inr rfl) | exact Or.inr rfl) rfl rfl)) (toV (e_fr (i := 1) rfl (by first | exact Or.inl rfl | exact Or.inr (Or.inl rfl) | exact Or.inr (Or.inr rfl) | exact Or.inr rfl) rfl rfl)))) (toV e_int)) (a_cons (st_rep _) (O_toE (x_bin o_add (O_toV (x_bin o_add (O_toV (x_sl (toV (e_fr (i := 4) rfl (by first | exact Or.inl rfl | exact Or.inr (Or.inl rfl) | exact Or.inr (Or.inr rfl) | exact Or.inr rfl) rfl rfl)) p_none (x_some (e_fr (i := 5) rfl (by first | exact Or.inl rfl | exact Or.inr (Or.inl rfl) | exact Or.inr (Or.inr rfl) | exact Or.inr rfl) rfl rfl)))) (toV (x_tup (a_cons (st_rep _) (x_ix (toV (e_fr (i := 8) rfl (by first | exact Or.inl rfl | exact Or.inr (Or.inl rfl) | exact Or.inr (Or.inr rfl) | exact Or.inr rfl) rfl rfl)) (O_toV (x_bin o_mod (O_toV (e_t1 o_int (st_view _) (by rfl) B.n_int bt_int (toV (x_ix (toV (e_fr (i := 3) rfl (by first | exact Or.inl rfl | exact Or.inr (Or.inl rfl) | exact Or.inr (Or.inr rfl) | exact Or.inr rfl) rfl rfl)) (toV e_int))))) (toV e_int)))) a_nil) (hp1 hp0) (by decide) rfl)))) (O_toV (x_sl (toV (e_fr (i := 4) rfl (by first | exact Or.inl rfl | exact Or.inr (Or.inl rfl) | exact Or.inr (Or.inr rfl) | exact Or.inr rfl) rfl rfl)) (x_some (O_toE (x_bin o_add (toV (e_fr (i := 5) rfl (by first | exact Or.inl rfl | exact Or.inr (Or.inl rfl) | exact Or.inr (Or.inr rfl) | exact Or.inr rfl) rfl rfl)) (toV e_int)))) p_none)))) a_nil)) (hp1 (hp1 hp0)) (by decide) rfl) (by exact (fun d r h => Option.some.inj h))))))))))))))
abbrev st__law_near_line : Stmt := topS 21
theorem sc__law_near_line : FnScope ["lines", "k", "at", "other", "draws", "reason", "m", "place", "value"] ["lines", "k", "at", "other", "draws"] (defScope st__law_near_line) := ⟨rfl, rfl, rfl, by decide +kernel, rfl, by decide +kernel, by decide +kernel⟩
theorem ok__law_near_line {P : Program} {w : World} {K : PySem.W.Frag} {mg : Str → Option Value} {base : Heap} {f : Addr} {fd : FuncData} {tb : Addr → Prop} (F : Fun K "_law_near_line" "_law_near_line" st__law_near_line f fd) (B : Bi mg) : FnOk P w K mg base CX0 1 f fd ["lines", "k", "at", "other", "draws"] (spD ⟨P, w, K, tb⟩ [.fr, .fr, .fr, .fr, .fr] .fr (ap5 m__law_near_line)) := by
  refine f_ok F sc__law_near_line rfl (by decide) fun cdv A outer s H E ds hr hd => ?_
  obtain ⟨a0, a1, a2, a3, a4, rfl⟩ := len5 hd
  show PSs _ _ (tS _ [.fr, .fr, .fr, .fr, .fr, .un, .un, .un, .un] [a0, a1, a2, a3, a4, PyData.none, PyData.none, PyData.none, PyData.none] _ (m__law_near_line a0 a1 a2 a3 a4))
  unfold m__law_near_line
  exact (s_asg sc__law_near_line.nd (i := 5) rfl (by first | exact Or.inl rfl | exact Or.inr (Or.inl rfl) | exact Or.inr (Or.inr rfl) | exact Or.inr rfl) (by decide) (x_ix (toV (x_ix (toV (e_fr (i := 0) rfl (by first | exact Or.inl rfl | exact Or.inr (Or.inl rfl) | exact Or.inr (Or.inr rfl) | exact Or.inr rfl) rfl rfl)) (toV (e_fr (i := 2) rfl (by first | exact Or.inl rfl | exact Or.inr (Or.inl rfl) | exact Or.inr (Or.inr rfl) | exact Or.inr rfl) rfl rfl)))) (toV e_int)) (fun d1 =>
(s_jn (emb := fun (t3 : PyData) => [a0, a1, PyData.none, PyData.none, a4, t3, PyData.none, PyData.none, PyData.none]) (sh' := [.fr, .fr, .un, .un, .fr, .fr, .un, .un, .un]) (fun k2 => z_if (PW.pt (w_or (y_cmp (o_ne hr) (O_toV (e_b1 o_len (st_view _) (by rfl) B.n_len bt_len (toV (e_fr (i := 5) rfl (by first | exact Or.inl rfl | exact Or.inr (Or.inl rfl) | exact Or.inr (Or.inr rfl) | exact Or.inr rfl) rfl rfl)))) (toV e_int) (nomark _)) (w_or1 (y_cmp (o_eq hr) (O_toV (x_bin o_mod (O_toV (e_t1 o_int (st_view _) (by rfl) B.n_int bt_int (toV (x_ix (toV (e_fr (i := 4) rfl (by first | exact Or.inl rfl | exact Or.inr (Or.inl rfl) | exact Or.inr (Or.inr rfl) | exact Or.inr rfl) rfl rfl)) (toV e_int))))) (toV e_int))) (toV e_int) (nomark _)))))
(s_asg sc__law_near_line.nd (i := 6) rfl (by first | exact Or.inl rfl | exact Or.inr (Or.inl rfl) | exact Or.inr (Or.inr rfl) | exact Or.inr rfl) (by decide) (O_toE (x_bin o_add (toV (e_fr (i := 1) rfl (by first | exact Or.inl rfl | exact Or.inr (Or.inl rfl) | exact Or.inr (Or.inr rfl) | exact Or.inr rfl) rfl rfl)) (O_toV (x_bin o_mod (O_toV (e_t1 o_int (st_view _) (by rfl) B.n_int bt_int (toV (x_ix (toV (e_fr (i := 4) rfl (by first | exact Or.inl rfl | exact Or.inr (Or.inl rfl) | exact Or.inr (Or.inr rfl) | exact Or.inr rfl) rfl rfl)) (toV e_int))))) (toV e_int))))) (fun d4 =>
(s_asg sc__law_near_line.nd (i := 5) rfl (by first | exact Or.inl rfl | exact Or.inr (Or.inl rfl) | exact Or.inr (Or.inr rfl) | exact Or.inr rfl) (by decide) (x_tup (a_cons (st_rep _) (e_fr (i := 2) rfl (by first | exact Or.inl rfl | exact Or.inr (Or.inl rfl) | exact Or.inr (Or.inr rfl) | exact Or.inr rfl) rfl rfl) (a_cons (st_rep _) (e_fr (i := 3) rfl (by first | exact Or.inl rfl | exact Or.inr (Or.inl rfl) | exact Or.inr (Or.inr rfl) | exact Or.inr rfl) rfl rfl) (a_cons (st_rep _) (x_ix (toV (x_tup (a_cons (st_rep _) (e_fr (i := 2) rfl (by first | exact Or.inl rfl | exact Or.inr (Or.inl rfl) | exact Or.inr (Or.inr rfl) | exact Or.inr rfl) rfl rfl) (a_cons (st_rep _) (e_fr (i := 3) rfl (by first | exact Or.inl rfl | exact Or.inr (Or.inl rfl) | exact Or.inr (Or.inr rfl) | exact Or.inr rfl) rfl rfl) a_nil)) (hp1 (hp1 hp0)) (by decide) rfl)) (O_toV (x_bin o_mod (O_toV (x_bin o_fdiv (O_toV (e_t1 o_int (st_view _) (by rfl) B.n_int bt_int (toV (x_ix (toV (e_fr (i := 4) rfl (by first | exact Or.inl rfl | exact Or.inr (Or.inl rfl) | exact Or.inr (Or.inr rfl) | exact Or.inr rfl) rfl rfl)) (toV e_int))))) (toV e_int))) (toV e_int)))) (a_cons (st_rep _) (e_fr (i := 6) rfl (by first | exact Or.inl rfl | exact Or.inr (Or.inl rfl) | exact Or.inr (Or.inr rfl) | exact Or.inr rfl) rfl rfl) (a_cons (st_rep _) (x_ix (toV (x_tup (a_cons (st_rep _) (e_fr (i := 6) rfl (by first | exact Or.inl rfl | exact Or.inr (Or.inl rfl) | exact Or.inr (Or.inr rfl) | exact Or.inr rfl) rfl rfl) (a_cons (st_rep _) (O_toE (x_bin o_sub (O_toV (x_bin o_add (toV (e_fr (i := 6) rfl (by first | exact Or.inl rfl | exact Or.inr (Or.inl rfl) | exact Or.inr (Or.inr rfl) | exact Or.inr rfl) rfl rfl)) (O_toV (e_b1 o_len (st_view _) (by rfl) B.n_len bt_len (toV (x_ix (toV (x_ix (toV (e_fr (i := 0) rfl (by first | exact Or.inl rfl | exact Or.inr (Or.inl rfl) | exact Or.inr (Or.inr rfl) | exact Or.inr rfl) rfl rfl)) (toV (e_fr (i := 3) rfl (by first | exact Or.inl rfl | exact Or.inr (Or.inl rfl) | exact Or.inr (Or.inr rfl) | exact Or.inr rfl) rfl rfl)))) (toV e_int))))))) (O_toV (e_b1 o_len (st_view _) (by rfl) B.n_len bt_len (toV (x_ix (toV (x_ix (toV (e_fr (i := 0) rfl (by first | exact Or.inl rfl | exact Or.inr (Or.inl rfl) | exact Or.inr (Or.inr rfl) | exact Or.inr rfl) rfl rfl)) (toV (e_fr (i := 2) rfl (by first | exact Or.inl rfl | exact Or.inr (Or.inl rfl) | exact Or.inr (Or.inr rfl) | exact Or.inr rfl) rfl rfl)))) (toV e_int))))))) a_nil)) (hp1 (hp1 hp0)) (by decide) rfl)) (O_toV (x_bin o_mod (O_toV (e_t1 o_int (st_view _) (by rfl) B.n_int bt_int (toV (x_ix (toV (e_fr (i := 4) rfl (by first | exact Or.inl rfl | exact Or.inr (Or.inl rfl) | exact Or.inr (Or.inr rfl) | exact Or.inr rfl) rfl rfl)) (toV e_int))))) (toV e_int)))) a_nil))))) (hp1 (hp1 (hp1 (hp1 (hp1 hp0))))) (by decide) rfl) (fun d5 =>
(s_nil (env' := [a0, a1, PyData.none, PyData.none, a4, d5, PyData.none, PyData.none, PyData.none]) (fun r h => ⟨d5, rfl, h⟩) ⟨.inl ⟨rfl, rfl⟩, .inl ⟨rfl, rfl⟩, .inr rfl, .inr rfl, .inl ⟨rfl, rfl⟩, .inl ⟨rfl, rfl⟩, .inr rfl, .inr rfl, .inr rfl, trivial⟩)))))
(s_nil (env' := [a0, a1, PyData.none, PyData.none, a4, d1, PyData.none, PyData.none, PyData.none]) (fun r h => ⟨d1, rfl, h⟩) ⟨.inl ⟨rfl, rfl⟩, .inl ⟨rfl, rfl⟩, .inr rfl, .inr rfl, .inl ⟨rfl, rfl⟩, .inl ⟨rfl, rfl⟩, .inr rfl, .inr rfl, .inr rfl, trivial⟩)) (fun t3 =>
(s_asg sc__law_near_line.nd (i := 7) rfl (by first | exact Or.inl rfl | exact Or.inr (Or.inl rfl) | exact Or.inr (Or.inr rfl) | exact Or.inr rfl) (by decide) (O_toE (x_bin o_mod (O_toV (x_bin o_fdiv (O_toV (e_t1 o_int (st_view _) (by rfl) B.n_int bt_int (toV (x_ix (toV (e_fr (i := 4) rfl (by first | exact Or.inl rfl | exact Or.inr (Or.inl rfl) | exact Or.inr (Or.inr rfl) | exact Or.inr rfl) rfl rfl)) (toV e_int))))) (toV e_int))) (toV e_int))) (fun d6 =>
(s_asg sc__law_near_line.nd (i := 8) rfl (by first | exact Or.inl rfl | exact Or.inr (Or.inl rfl) | exact Or.inr (Or.inr rfl) | exact Or.inr rfl) (by decide) (O_toE (x_bin o_mod (O_toV (x_bin o_fdiv (O_toV (e_t1 o_int (st_view _) (by rfl) B.n_int bt_int (toV (x_ix (toV (e_fr (i := 4) rfl (by first | exact Or.inl rfl | exact Or.inr (Or.inl rfl) | exact Or.inr (Or.inr rfl) | exact Or.inr rfl) rfl rfl)) (toV e_int))))) (toV e_int))) (O_toV (e_b1 o_len (st_view _) (by rfl) B.n_len bt_len (toV (e_fr (i := 0) rfl (by first | exact Or.inl rfl | exact Or.inr (Or.inl rfl) | exact Or.inr (Or.inr rfl) | exact Or.inr rfl) rfl rfl)))))) (fun d7 =>
(s_jn (emb := fun (t9 : PyData) => [a0, PyData.none, PyData.none, PyData.none, PyData.none, t3, PyData.none, d6, t9]) (sh' := [.fr, .un, .un, .un, .un, .fr, .un, .fr, .fr]) (fun k8 => z_if (y_cmp (o_gt hr) (toV (e_fr (i := 7) rfl (by first | exact Or.inl rfl | exact Or.inr (Or.inl rfl) | exact Or.inr (Or.inr rfl) | exact Or.inr rfl) rfl rfl)) (toV e_int) (nomark _))
(s_asg sc__law_near_line.nd (i := 8) rfl (by first | exact Or.inl rfl | exact Or.inr (Or.inl rfl) | exact Or.inr (Or.inr rfl) | exact Or.inr rfl) (by decide) (O_toE (x_bin o_add (O_toV (x_b2 (o_max2 rfl) (by rfl) B.n_max bt_max (toV e_int) (O_toV (x_bin o_sub (toV (e_fr (i := 1) rfl (by first | exact Or.inl rfl | exact Or.inr (Or.inl rfl) | exact Or.inr (Or.inr rfl) | exact Or.inr rfl) rfl rfl)) (toV e_int))))) (O_toV (x_bin o_mod (O_toV (x_bin o_fdiv (O_toV (e_t1 o_int (st_view _) (by rfl) B.n_int bt_int (toV (x_ix (toV (e_fr (i := 4) rfl (by first | exact Or.inl rfl | exact Or.inr (Or.inl rfl) | exact Or.inr (Or.inr rfl) | exact Or.inr rfl) rfl rfl)) (toV e_int))))) (toV e_int))) (toV e_int))))) (fun d10 =>
(s_nil (env' := [a0, PyData.none, PyData.none, PyData.none, PyData.none, t3, PyData.none, d6, d10]) (fun r h => ⟨d10, rfl, h⟩) ⟨.inl ⟨rfl, rfl⟩, .inr rfl, .inr rfl, .inr rfl, .inr rfl, .inl ⟨rfl, rfl⟩, .inr rfl, .inl ⟨rfl, rfl⟩, .inl ⟨rfl, rfl⟩, trivial⟩)))
(s_nil (env' := [a0, PyData.none, PyData.none, PyData.none, PyData.none, t3, PyData.none, d6, d7]) (fun r h => ⟨d7, rfl, h⟩) ⟨.inl ⟨rfl, rfl⟩, .inr rfl, .inr rfl, .inr rfl, .inr rfl, .inl ⟨rfl, rfl⟩, .inr rfl, .inl ⟨rfl, rfl⟩, .inl ⟨rfl, rfl⟩, trivial⟩)) (fun t9 =>
(s_asg sc__law_near_line.nd (i := 5) rfl (by first | exact Or.inl rfl | exact Or.inr (Or.inl rfl) | exact Or.inr (Or.inr rfl) | exact Or.inr rfl) (by decide) (O_toE (x_bin o_add (O_toV (x_bin o_add (O_toV (x_sl (toV (e_fr (i := 5) rfl (by first | exact Or.inl rfl | exact Or.inr (Or.inl rfl) | exact Or.inr (Or.inr rfl) | exact Or.inr rfl) rfl rfl)) p_none (x_some (e_fr (i := 7) rfl (by first | exact Or.inl rfl | exact Or.inr (Or.inl rfl) | exact Or.inr (Or.inr rfl) | exact Or.inr rfl) rfl rfl)))) (toV (x_tup (a_cons (st_rep _) (e_fr (i := 8) rfl (by first | exact Or.inl rfl | exact Or.inr (Or.inl rfl) | exact Or.inr (Or.inr rfl) | exact Or.inr rfl) rfl rfl) a_nil) (hp1 hp0) (by decide) rfl)))) (O_toV (x_sl (toV (e_fr (i := 5) rfl (by first | exact Or.inl rfl | exact Or.inr (Or.inl rfl) | exact Or.inr (Or.inr rfl) | exact Or.inr rfl) rfl rfl)) (x_some (O_toE (x_bin o_add (toV (e_fr (i := 7) rfl (by first | exact Or.inl rfl | exact Or.inr (Or.inl rfl) | exact Or.inr (Or.inr rfl) | exact Or.inr rfl) rfl rfl)) (toV e_int)))) p_none)))) (fun d11 =>
(s_one (z_ret rfl (x_tup (a_cons (st_rep _) (O_toE (x_bin o_add (O_toV (x_sl (toV (x_ix (toV (x_ix (toV (e_fr (i := 0) rfl (by first | exact Or.inl rfl | exact Or.inr (Or.inl rfl) | exact Or.inr (Or.inr rfl) | exact Or.inr rfl) rfl rfl)) (toV (x_ix (toV (e_fr (i := 5) rfl (by first | exact Or.inl rfl | exact Or.inr (Or.inl rfl) | exact Or.inr (Or.inr rfl) | exact Or.inr rfl) rfl rfl)) (toV e_int))))) (toV e_int))) p_none (x_some (O_toE (x_b2 (o_max2 rfl) (by rfl) B.n_max bt_max (toV e_int) (toV (x_ix (toV (e_fr (i := 5) rfl (by first | exact Or.inl rfl | exact Or.inr (Or.inl rfl) | exact Or.inr (Or.inr rfl) | exact Or.inr rfl) rfl rfl)) (toV e_int)))))))) (O_toV (x_sl (toV (x_ix (toV (x_ix (toV (e_fr (i := 0) rfl (by first | exact Or.inl rfl | exact Or.inr (Or.inl rfl) | exact Or.inr (Or.inr rfl) | exact Or.inr rfl) rfl rfl)) (toV (x_ix (toV (e_fr (i := 5) rfl (by first | exact Or.inl rfl | exact Or.inr (Or.inl rfl) | exact Or.inr (Or.inr rfl) | exact Or.inr rfl) rfl rfl)) (toV e_int))))) (toV e_int))) (x_some (x_ix (toV (e_fr (i := 5) rfl (by first | exact Or.inl rfl | exact Or.inr (Or.inl rfl) | exact Or.inr (Or.inr rfl) | exact Or.inr rfl) rfl rfl)) (toV e_int))) p_none)))) (a_cons (st_rep _) (e_fr (i := 5) rfl (by first | exact Or.inl rfl | exact Or.inr (Or.inl rfl) | exact Or.inr (Or.inr rfl) | exact Or.inr rfl) rfl rfl) a_nil)) (hp1 (hp1 hp0)) (by decide) rfl) (by exact (fun d r h => Option.some.inj h))))))))))))))))
abbrev st__law_spoilt_lines : Stmt := topS 22
theorem sc__law_spoilt_lines : FnScope ["lines", "k", "letters", "draws", "at", "other", "line", "kind", "m", "after", "more"] ["lines", "k", "letters", "draws"] (defScope st__law_spoilt_lines) := ⟨rfl, rfl, rfl, by decide +kernel, rfl, by decide +kernel, by decide +kernel⟩
theorem ok__law_spoilt_lines {P : Program} {w : World} {K : PySem.W.Frag} {mg : Str → Option Value} {base : Heap} {f : Addr} {fd : FuncData} {tb : Addr → Prop} (F : Fun K "_law_spoilt_lines" "_law_spoilt_lines" st__law_spoilt_lines f fd) (B : Bi mg) (C__law_near_line : CallOk ⟨P, w, K, tb⟩ mg base "_law_near_line" 1 [.fr, .fr, .fr, .fr, .fr] .fr (ap5 m__law_near_line)) (C__law_spoilt_number : CallOk ⟨P, w, K, tb⟩ mg base "_law_spoilt_number" 1 [.fr, .fr, .fr, .fr] .fr (ap4 m__law_spoilt_number)) : FnOk P w K mg base CX0 2 f fd ["lines", "k", "letters", "draws"] (spD ⟨P, w, K, tb⟩ [.fr, .fr, .fr, .fr] .fr (ap4 m__law_spoilt_lines)) := by
  refine f_ok F sc__law_spoilt_lines rfl (by decide) fun cdv A outer s H E ds hr hd => ?_
  obtain ⟨a0, a1, a2, a3, rfl⟩ := len4 hd
  show PSs _ _ (tS _ [.fr, .fr, .fr, .fr, .un, .un, .un, .un, .un, .un, .un] [a0, a1, a2, a3, PyData.none, PyData.none, PyData.none, PyData.none, PyData.none, PyData.none, PyData.none] _ (m__law_spoilt_lines a0 a1 a2 a3))
  unfold m__law_spoilt_lines
  exact (s_jn (emb := fun (t2 : Unit) => [a0, a1, a2, a3, PyData.none, PyData.none, PyData.none, PyData.none, PyData.none, PyData.none, PyData.none]) (sh' := [.fr, .fr, .fr, .fr, .un, .un, .un, .un, .un, .un, .un]) (fun k1 => z_if (y_cmp (o_eq hr) (O_toV (e_b1 o_len (st_view _) (by rfl) B.n_len bt_len (toV (e_fr (i := 0) rfl (by first | exact Or.inl rfl | exact Or.inr (Or.inl rfl) | exact Or.inr (Or.inr rfl) | exact Or.inr rfl) rfl rfl)))) (toV e_int) (nomark _))
(s_one (z_ret rfl (O_toE (x_lst (a_cons (st_rep _) (x_tup (a_cons (st_rep _) (x_ix (toV (e_fr (i := 2) rfl (by first | exact Or.inl rfl | exact Or.inr (Or.inl rfl) | exact Or.inr (Or.inr rfl) | exact Or.inr rfl) rfl rfl)) (toV e_int)) (a_cons (st_rep _) (x_ix (toV (x_tup (a_cons (st_rep _) (x_tup a_nil hp0 (by decide) rfl) (a_cons (st_rep _) (x_tup (a_cons (st_rep _) e_int (a_cons (st_rep _) e_int (a_cons (st_rep _) e_int (a_cons (st_rep _) (e_fr (i := 1) rfl (by first | exact Or.inl rfl | exact Or.inr (Or.inl rfl) | exact Or.inr (Or.inr rfl) | exact Or.inr rfl) rfl rfl) (a_cons (st_rep _) (e_fr (i := 1) rfl (by first | exact Or.inl rfl | exact Or.inr (Or.inl rfl) | exact Or.inr (Or.inr rfl) | exact Or.inr rfl) rfl rfl) a_nil))))) (hp1 (hp1 (hp1 (hp1 (hp1 hp0))))) (by decide) rfl) a_nil)) (hp1 (hp1 hp0)) (by decide) rfl)) (O_toV (x_bin o_mod (O_toV (e_t1 o_int (st_view _) (by rfl) B.n_int bt_int (toV (x_ix (toV (e_fr (i := 3) rfl (by first | exact Or.inl rfl | exact Or.inr (Or.inl rfl) | exact Or.inr (Or.inr rfl) | exact Or.inr rfl) rfl rfl)) (toV e_int))))) (toV e_int)))) a_nil)) (hp1 (hp1 hp0)) (by decide) rfl) a_nil) (hp1 hp0) (by decide) rfl)) (by exact (fun d r h => Option.some.inj h))))
(s_nil (env' := [a0, a1, a2, a3, PyData.none, PyData.none, PyData.none, PyData.none, PyData.none, PyData.none, PyData.none]) (fun r h => ⟨(), rfl, h⟩) ⟨.inl ⟨rfl, rfl⟩, .inl ⟨rfl, rfl⟩, .inl ⟨rfl, rfl⟩, .inl ⟨rfl, rfl⟩, .inr rfl, .inr rfl, .inr rfl, .inr rfl, .inr rfl, .inr rfl, .inr rfl, trivial⟩)) (fun t2 =>
(s_asg sc__law_spoilt_lines.nd (i := 4) rfl (by first | exact Or.inl rfl | exact Or.inr (Or.inl rfl) | exact Or.inr (Or.inr rfl) | exact Or.inr rfl) (by decide) (O_toE (x_bin o_mod (O_toV (e_t1 o_int (st_view _) (by rfl) B.n_int bt_int (toV (x_ix (toV (e_fr (i := 3) rfl (by first | exact Or.inl rfl | exact Or.inr (Or.inl rfl) | exact Or.inr (Or.inr rfl) | exact Or.inr rfl) rfl rfl)) (toV e_int))))) (O_toV (e_b1 o_len (st_view _) (by rfl) B.n_len bt_len (toV (e_fr (i := 0) rfl (by first | exact Or.inl rfl | exact Or.inr (Or.inl rfl) | exact Or.inr (Or.inr rfl) | exact Or.inr rfl) rfl rfl)))))) (fun d3 =>
(s_asg sc__law_spoilt_lines.nd (i := 5) rfl (by first | exact Or.inl rfl | exact Or.inr (Or.inl rfl) | exact Or.inr (Or.inr rfl) | exact Or.inr rfl) (by decide) (O_toE (x_bin o_mod (O_toV (e_t1 o_int (st_view _) (by rfl) B.n_int bt_int (toV (x_ix (toV (e_fr (i := 3) rfl (by first | exact Or.inl rfl | exact Or.inr (Or.inl rfl) | exact Or.inr (Or.inr rfl) | exact Or.inr rfl) rfl rfl)) (toV e_int))))) (O_toV (e_b1 o_len (st_view _) (by rfl) B.n_len bt_len (toV (e_fr (i := 0) rfl (by first | exact Or.inl rfl | exact Or.inr (Or.inl rfl) | exact Or.inr (Or.inr rfl) | exact Or.inr rfl) rfl rfl)))))) (fun d4 =>
(s_asg sc__law_spoilt_lines.nd (i := 6) rfl (by first | exact Or.inl rfl | exact Or.inr (Or.inl rfl) | exact Or.inr (Or.inr rfl) | exact Or.inr rfl) (by decide) (x_ix (toV (e_fr (i := 0) rfl (by first | exact Or.inl rfl | exact Or.inr (Or.inl rfl) | exact Or.inr (Or.inr rfl) | exact Or.inr rfl) rfl rfl)) (toV (e_fr (i := 4) rfl (by first | exact Or.inl rfl | exact Or.inr (Or.inl rfl) | exact Or.inr (Or.inr rfl) | exact Or.inr rfl) rfl rfl))) (fun d5 =>
(s_asg sc__law_spoilt_lines.nd (i := 7) rfl (by first | exact Or.inl rfl | exact Or.inr (Or.inl rfl) | exact Or.inr (Or.inr rfl) | exact Or.inr rfl) (by decide) (O_toE (x_bin o_mod (O_toV (e_t1 o_int (st_view _) (by rfl) B.n_int bt_int (toV (x_ix (toV (e_fr (i := 3) rfl (by first | exact Or.inl rfl | exact Or.inr (Or.inl rfl) | exact Or.inr (Or.inr rfl) | exact Or.inr rfl) rfl rfl)) (toV e_int))))) (toV e_int))) (fun d6 =>
(s_jn (emb := fun (t8 : PyData) => [a0, PyData.none, PyData.none, PyData.none, d3, PyData.none, t8, PyData.none, PyData.none, PyData.none, PyData.none]) (sh' := [.fr, .un, .un, .un, .fr, .un, .fr, .un, .un, .un, .un]) (fun k7 => z_if (PW.pt (w_and (y_cmp (o_lt hr) (toV (e_fr (i := 7) rfl (by first | exact Or.inl rfl | exact Or.inr (Or.inl rfl) | exact Or.inr (Or.inr rfl) | exact Or.inr rfl) rfl rfl)) (toV e_int) (nomark _)) (w_and1 (y_cmp (o_eq hr) (O_toV (e_b1 o_len (st_view _) (by rfl) B.n_len bt_len (toV (x_ix (toV (e_fr (i := 6) rfl (by first | exact Or.inl rfl | exact Or.inr (Or.inl rfl) | exact Or.inr (Or.inr rfl) | exact Or.inr rfl) rfl rfl)) (toV e_int))))) (toV e_int) (nomark _)))))
(s_asg sc__law_spoilt_lines.nd (i := 6) rfl (by first | exact Or.inl rfl | exact Or.inr (Or.inl rfl) | exact Or.inr (Or.inr rfl) | exact Or.inr rfl) (by decide) (O_toE (e_call C__law_spoilt_number hr (by decide) (by rfl) (a_cons (st_rep _) (e_fr (i := 0) rfl (by first | exact Or.inl rfl | exact Or.inr (Or.inl rfl) | exact Or.inr (Or.inr rfl) | exact Or.inr rfl) rfl rfl) (a_cons (st_rep _) (e_fr (i := 4) rfl (by first | exact Or.inl rfl | exact Or.inr (Or.inl rfl) | exact Or.inr (Or.inr rfl) | exact Or.inr rfl) rfl rfl) (a_cons (st_rep _) (e_fr (i := 1) rfl (by first | exact Or.inl rfl | exact Or.inr (Or.inl rfl) | exact Or.inr (Or.inr rfl) | exact Or.inr rfl) rfl rfl) (a_cons (st_rep _) (O_toE (x_sl (toV (e_fr (i := 3) rfl (by first | exact Or.inl rfl | exact Or.inr (Or.inl rfl) | exact Or.inr (Or.inr rfl) | exact Or.inr rfl) rfl rfl)) (x_some e_int) (x_some e_int))) a_nil)))) rfl)) (fun d9 =>
(s_nil (env' := [a0, PyData.none, PyData.none, PyData.none, d3, PyData.none, d9, PyData.none, PyData.none, PyData.none, PyData.none]) (fun r h => ⟨d9, rfl, h⟩) ⟨.inl ⟨rfl, rfl⟩, .inr rfl, .inr rfl, .inr rfl, .inl ⟨rfl, rfl⟩, .inr rfl, .inl ⟨rfl, rfl⟩, .inr rfl, .inr rfl, .inr rfl, .inr rfl, trivial⟩)))
(s_one (z_if (y_cmp (o_lt hr) (toV (e_fr (i := 7) rfl (by first | exact Or.inl rfl | exact Or.inr (Or.inl rfl) | exact Or.inr (Or.inr rfl) | exact Or.inr rfl) rfl rfl)) (toV e_int) (nomark _))
(s_asg sc__law_spoilt_lines.nd (i := 8) rfl (by first | exact Or.inl rfl | exact Or.inr (Or.inl rfl) | exact Or.inr (Or.inr rfl) | exact Or.inr rfl) (by decide) (x_ix (toV (x_tup (a_cons (st_rep _) (e_fr (i := 1) rfl (by first | exact Or.inl rfl | exact Or.inr (Or.inl rfl) | exact Or.inr (Or.inr rfl) | exact Or.inr rfl) rfl rfl) (a_cons (st_rep _) (O_toE (e_b1 o_len (st_view _) (by rfl) B.n_len bt_len (toV (x_ix (toV (e_fr (i := 6) rfl (by first | exact Or.inl rfl | exact Or.inr (Or.inl rfl) | exact Or.inr (Or.inr rfl) | exact Or.inr rfl) rfl rfl)) (toV e_int))))) (a_cons (st_rep _) (O_toE (x_bin o_sub (toV (e_fr (i := 1) rfl (by first | exact Or.inl rfl | exact Or.inr (Or.inl rfl) | exact Or.inr (Or.inr rfl) | exact Or.inr rfl) rfl rfl)) (toV e_int))) (a_cons (st_rep _) (O_toE (x_bin o_add (O_toV (e_b1 o_len (st_view _) (by rfl) B.n_len bt_len (toV (x_ix (toV (e_fr (i := 6) rfl (by first | exact Or.inl rfl | exact Or.inr (Or.inl rfl) | exact Or.inr (Or.inr rfl) | exact Or.inr rfl) rfl rfl)) (toV e_int))))) (toV e_int))) (a_cons (st_rep _) e_int (a_cons (st_rep _) (O_toE (x_bin o_sub (toV e_int) (toV e_int))) a_nil)))))) (hp1 (hp1 (hp1 (hp1 (hp1 (hp1 hp0)))))) (by decide) rfl)) (O_toV (x_bin o_mod (O_toV (e_t1 o_int (st_view _) (by rfl) B.n_int bt_int (toV (x_ix (toV (e_fr (i := 3) rfl (by first | exact Or.inl rfl | exact Or.inr (Or.inl rfl) | exact Or.inr (Or.inr rfl) | exact Or.inr rfl) rfl rfl)) (toV e_int))))) (toV e_int)))) (fun d10 =>
(s_one (z_ret rfl (O_toE (x_bin o_add (toV (e_fr (i := 0) rfl (by first | exact Or.inl rfl | exact Or.inr (Or.inl rfl) | exact Or.inr (Or.inr rfl) | exact Or.inr rfl) rfl rfl)) (O_toV (x_lst (a_cons (st_rep _) (x_tup (a_cons (st_rep _) (x_ix (toV (e_fr (i := 6) rfl (by first | exact Or.inl rfl | exact Or.inr (Or.inl rfl) | exact Or.inr (Or.inr rfl) | exact Or.inr rfl) rfl rfl)) (toV e_int)) (a_cons (st_rep _) (x_tup (a_cons (st_rep _) (e_fr (i := 4) rfl (by first | exact Or.inl rfl | exact Or.inr (Or.inl rfl) | exact Or.inr (Or.inr rfl) | exact Or.inr rfl) rfl rfl) (a_cons (st_rep _) (e_fr (i := 4) rfl (by first | exact Or.inl rfl | exact Or.inr (Or.inl rfl) | exact Or.inr (Or.inr rfl) | exact Or.inr rfl) rfl rfl) (a_cons (st_rep _) (e_fr (i := 4) rfl (by first | exact Or.inl rfl | exact Or.inr (Or.inl rfl) | exact Or.inr (Or.inr rfl) | exact Or.inr rfl) rfl rfl) (a_cons (st_rep _) (e_fr (i := 8) rfl (by first | exact Or.inl rfl | exact Or.inr (Or.inl rfl) | exact Or.inr (Or.inr rfl) | exact Or.inr rfl) rfl rfl) (a_cons (st_rep _) (x_ix (toV (x_tup (a_cons (st_rep _) (e_fr (i := 8) rfl (by first | exact Or.inl rfl | exact Or.inr (Or.inl rfl) | exact Or.inr (Or.inr rfl) | exact Or.inr rfl) rfl rfl) (a_cons (st_rep _) (e_fr (i := 8) rfl (by first | exact Or.inl rfl | exact Or.inr (Or.inl rfl) | exact Or.inr (Or.inr rfl) | exact Or.inr rfl) rfl rfl) (a_cons (st_rep _) (e_fr (i := 8) rfl (by first | exact Or.inl rfl | exact Or.inr (Or.inl rfl) | exact Or.inr (Or.inr rfl) | exact Or.inr rfl) rfl rfl) (a_cons (st_rep _) (O_toE (x_bin o_add (toV (e_fr (i := 8) rfl (by first | exact Or.inl rfl | exact Or.inr (Or.inl rfl) | exact Or.inr (Or.inr rfl) | exact Or.inr rfl) rfl rfl)) (toV e_int))) a_nil)))) (hp1 (hp1 (hp1 (hp1 hp0)))) (by decide) rfl)) (O_toV (x_bin o_mod (O_toV (e_t1 o_int (st_view _) (by rfl) B.n_int bt_int (toV (x_ix (toV (e_fr (i := 3) rfl (by first | exact Or.inl rfl | exact Or.inr (Or.inl rfl) | exact Or.inr (Or.inr rfl) | exact Or.inr rfl) rfl rfl)) (toV e_int))))) (toV e_int)))) a_nil))))) (hp1 (hp1 (hp1 (hp1 (hp1 hp0))))) (by decide) rfl) a_nil)) (hp1 (hp1 hp0)) (by decide) rfl) a_nil) (hp1 hp0) (by decide) rfl)))) (by exact (fun d r h => Option.some.inj h))))))
(s_one (z_if (y_cmp (o_gt hr) (toV (e_fr (i := 7) rfl (by first | exact Or.inl rfl | exact Or.inr (Or.inl rfl) | exact Or.inr (Or.inr rfl) | exact Or.inr rfl) rfl rfl)) (toV e_int) (nomark _))
(s_one (z_ret rfl (O_toE (x_bin o_add (toV (e_fr (i := 0) rfl (by first | exact Or.inl rfl | exact Or.inr (Or.inl rfl) | exact Or.inr (Or.inr rfl) | exact Or.inr rfl) rfl rfl)) (O_toV (x_lst (a_cons (st_rep _) (O_toE (e_call C__law_near_line hr (by decide) (by rfl) (a_cons (st_rep _) (e_fr (i := 0) rfl (by first | exact Or.inl rfl | exact Or.inr (Or.inl rfl) | exact Or.inr (Or.inr rfl) | exact Or.inr rfl) rfl rfl) (a_cons (st_rep _) (e_fr (i := 1) rfl (by first | exact Or.inl rfl | exact Or.inr (Or.inl rfl) | exact Or.inr (Or.inr rfl) | exact Or.inr rfl) rfl rfl) (a_cons (st_rep _) (e_fr (i := 4) rfl (by first | exact Or.inl rfl | exact Or.inr (Or.inl rfl) | exact Or.inr (Or.inr rfl) | exact Or.inr rfl) rfl rfl) (a_cons (st_rep _) (e_fr (i := 5) rfl (by first | exact Or.inl rfl | exact Or.inr (Or.inl rfl) | exact Or.inr (Or.inr rfl) | exact Or.inr rfl) rfl rfl) (a_cons (st_rep _) (O_toE (x_sl (toV (e_fr (i := 3) rfl (by first | exact Or.inl rfl | exact Or.inr (Or.inl rfl) | exact Or.inr (Or.inr rfl) | exact Or.inr rfl) rfl rfl)) (x_some e_int) (x_some e_int))) a_nil))))) rfl)) a_nil) (hp1 hp0) (by decide) rfl)))) (by exact (fun d r h => Option.some.inj h))))
(s_one (z_if (y_cmp (o_eq hr) (toV (e_fr (i := 7) rfl (by first | exact Or.inl rfl | exact Or.inr (Or.inl rfl) | exact Or.inr (Or.inr rfl) | exact Or.inr rfl) rfl rfl)) (toV e_int) (nomark _))
(s_own (T := .any) sc__law_spoilt_lines.nd (i := 9) rfl (by first | exact Or.inl rfl | exact Or.inr (Or.inl rfl) | exact Or.inr (Or.inr rfl) | exact Or.inr rfl) (by decide) (e_t1 o_list (st_view _) (by rfl) B.n_list bt_list (toV (e_fr (i := 0) rfl (by first | exact Or.inl rfl | exact Or.inr (Or.inl rfl) | exact Or.inr (Or.inr rfl) | exact Or.inr rfl) rfl rfl))) (fun d11 =>
(s_set (i := 9) rfl rfl (pe_var (i := 9) rfl (by first | exact Or.inl rfl | exact Or.inr (Or.inl rfl) | exact Or.inr (Or.inr rfl) | exact Or.inr rfl) (by decide) (by decide)) (x_ix (toV (e_fr (i := 0) rfl (by first | exact Or.inl rfl | exact Or.inr (Or.inl rfl) | exact Or.inr (Or.inr rfl) | exact Or.inr rfl) rfl rfl)) (toV (e_fr (i := 5) rfl (by first | exact Or.inl rfl | exact Or.inr (Or.inl rfl) | exact Or.inr (Or.inr rfl) | exact Or.inr rfl) rfl rfl))) (e_fr (i := 4) rfl (by first | exact Or.inl rfl | exact Or.inr (Or.inl rfl) | exact Or.inr (Or.inr rfl) | exact Or.inr rfl) rfl rfl) (fun d12 =>
(s_set (i := 9) rfl rfl (pe_var (i := 9) rfl (by first | exact Or.inl rfl | exact Or.inr (Or.inl rfl) | exact Or.inr (Or.inr rfl) | exact Or.inr rfl) (by decide) (by decide)) (e_fr (i := 6) rfl (by first | exact Or.inl rfl | exact Or.inr (Or.inl rfl) | exact Or.inr (Or.inr rfl) | exact Or.inr rfl) rfl rfl) (e_fr (i := 5) rfl (by first | exact Or.inl rfl | exact Or.inr (Or.inl rfl) | exact Or.inr (Or.inr rfl) | exact Or.inr rfl) rfl rfl) (fun d13 =>
(s_frz 9 rfl rfl
(s_one (z_ret rfl (e_fr (i := 9) rfl (by first | exact Or.inl rfl | exact Or.inr (Or.inl rfl) | exact Or.inr (Or.inr rfl) | exact Or.inr rfl) rfl rfl) (by exact (fun d r h => Option.some.inj h)))))))))))
(s_one (z_if (y_cmp (o_eq hr) (toV (e_fr (i := 7) rfl (by first | exact Or.inl rfl | exact Or.inr (Or.inl rfl) | exact Or.inr (Or.inr rfl) | exact Or.inr rfl) rfl rfl)) (toV e_int) (nomark _))
(s_one (z_ret rfl (O_toE (x_bin o_add (O_toV (x_sl (toV (e_fr (i := 0) rfl (by first | exact Or.inl rfl | exact Or.inr (Or.inl rfl) | exact Or.inr (Or.inr rfl) | exact Or.inr rfl) rfl rfl)) p_none (x_some (e_fr (i := 4) rfl (by first | exact Or.inl rfl | exact Or.inr (Or.inl rfl) | exact Or.inr (Or.inr rfl) | exact Or.inr rfl) rfl rfl)))) (O_toV (x_sl (toV (e_fr (i := 0) rfl (by first | exact Or.inl rfl | exact Or.inr (Or.inl rfl) | exact Or.inr (Or.inr rfl) | exact Or.inr rfl) rfl rfl)) (x_some (O_toE (x_bin o_add (toV (e_fr (i := 4) rfl (by first | exact Or.inl rfl | exact Or.inr (Or.inl rfl) | exact Or.inr (Or.inr rfl) | exact Or.inr rfl) rfl rfl)) (toV e_int)))) p_none)))) (by exact (fun d r h => Option.some.inj h))))
(s_one (z_if (y_cmp (o_eq hr) (toV (e_fr (i := 7) rfl (by first | exact Or.inl rfl | exact Or.inr (Or.inl rfl) | exact Or.inr (Or.inr rfl) | exact Or.inr rfl) rfl rfl)) (toV e_int) (nomark _))
(s_asg sc__law_spoilt_lines.nd (i := 6) rfl (by first | exact Or.inl rfl | exact Or.inr (Or.inl rfl) | exact Or.inr (Or.inr rfl) | exact Or.inr rfl) (by decide) (x_tup (a_cons (st_rep _) (x_ix (toV (e_fr (i := 6) rfl (by first | exact Or.inl rfl | exact Or.inr (Or.inl rfl) | exact Or.inr (Or.inr rfl) | exact Or.inr rfl) rfl rfl)) (toV e_int)) (a_cons (st_rep _) (x_ix (toV (x_tup (a_cons (st_rep _) (x_tup a_nil hp0 (by decide) rfl) (a_cons (st_rep _) (O_toE (x_bin o_add (toV (x_ix (toV (e_fr (i := 6) rfl (by first | exact Or.inl rfl | exact Or.inr (Or.inl rfl) | exact Or.inr (Or.inr rfl) | exact Or.inr rfl) rfl rfl)) (toV e_int))) (toV (x_tup (a_cons (st_rep _) e_int a_nil) (hp1 hp0) (by decide) rfl)))) (a_cons (st_rep _) (O_toE (x_sl (toV (x_ix (toV (e_fr (i := 6) rfl (by first | exact Or.inl rfl | exact Or.inr (Or.inl rfl) | exact Or.inr (Or.inr rfl) | exact Or.inr rfl) rfl rfl)) (toV e_int))) p_none (x_some e_int))) (a_cons (st_rep _) (x_tup (a_cons (st_rep _) e_int (a_cons (st_rep _) e_int (a_cons (st_rep _) e_int (a_cons (st_rep _) (e_fr (i := 1) rfl (by first | exact Or.inl rfl | exact Or.inr (Or.inl rfl) | exact Or.inr (Or.inr rfl) | exact Or.inr rfl) rfl rfl) (a_cons (st_rep _) (e_fr (i := 1) rfl (by first | exact Or.inl rfl | exact Or.inr (Or.inl rfl) | exact Or.inr (Or.inr rfl) | exact Or.inr rfl) rfl rfl) a_nil))))) (hp1 (hp1 (hp1 (hp1 (hp1 hp0))))) (by decide) rfl) (a_cons (st_rep _) (O_toE (x_bin o_mul (toV (x_ix (toV (e_fr (i := 6) rfl (by first | exact Or.inl rfl | exact Or.inr (Or.inl rfl) | exact Or.inr (Or.inr rfl) | exact Or.inr rfl) rfl rfl)) (toV e_int))) (toV e_int))) a_nil))))) (hp1 (hp1 (hp1 (hp1 (hp1 hp0))))) (by decide) rfl)) (O_toV (x_bin o_mod (O_toV (e_t1 o_int (st_view _) (by rfl) B.n_int bt_int (toV (x_ix (toV (e_fr (i := 3) rfl (by first | exact Or.inl rfl | exact Or.inr (Or.inl rfl) | exact Or.inr (Or.inr rfl) | exact Or.inr rfl) rfl rfl)) (toV e_int))))) (toV e_int)))) a_nil)) (hp1 (hp1 hp0)) (by decide) rfl) (fun d14 =>
(s_nil (env' := [a0, PyData.none, PyData.none, PyData.none, d3, PyData.none, d14, PyData.none, PyData.none, PyData.none, PyData.none]) (fun r h => ⟨d14, rfl, h⟩) ⟨.inl ⟨rfl, rfl⟩, .inr rfl, .inr rfl, .inr rfl, .inl ⟨rfl, rfl⟩, .inr rfl, .inl ⟨rfl, rfl⟩, .inr rfl, .inr rfl, .inr rfl, .inr rfl, trivial⟩)))
(s_one (z_if (y_cmp (o_eq hr) (toV (e_fr (i := 7) rfl (by first | exact Or.inl rfl | exact Or.inr (Or.inl rfl) | exact Or.inr (Or.inr rfl) | exact Or.inr rfl) rfl rfl)) (toV e_int) (nomark _))
(s_asg sc__law_spoilt_lines.nd (i := 10) rfl (by first | exact Or.inl rfl | exact Or.inr (Or.inl rfl) | exact Or.inr (Or.inr rfl) | exact Or.inr rfl) (by decide) (x_ix (toV (e_fr (i := 2) rfl (by first | exact Or.inl rfl | exact Or.inr (Or.inl rfl) | exact Or.inr (Or.inr rfl) | exact Or.inr rfl) rfl rfl)) (O_toV (x_bin o_mod (O_toV (e_t1 o_int (st_view _) (by rfl) B.n_int bt_int (toV (x_ix (toV (e_fr (i := 3) rfl (by first | exact Or.inl rfl | exact Or.inr (Or.inl rfl) | exact Or.inr (Or.inr rfl) | exact Or.inr rfl) rfl rfl)) (toV e_int))))) (O_toV (e_b1 o_len (st_view _) (by rfl) B.n_len bt_len (toV (e_fr (i := 2) rfl (by first | exact Or.inl rfl | exact Or.inr (Or.inl rfl) | exact Or.inr (Or.inr rfl) | exact Or.inr rfl) rfl rfl))))))) (fun d15 =>
(s_asg sc__law_spoilt_lines.nd (i := 6) rfl (by first | exact Or.inl rfl | exact Or.inr (Or.inl rfl) | exact Or.inr (Or.inr rfl) | exact Or.inr rfl) (by decide) (x_tup (a_cons (st_rep _) (x_ix (toV (x_tup (a_cons (st_rep _) (O_toE (x_bin o_add (toV (x_ix (toV (e_fr (i := 6) rfl (by first | exact Or.inl rfl | exact Or.inr (Or.inl rfl) | exact Or.inr (Or.inr rfl) | exact Or.inr rfl) rfl rfl)) (toV e_int))) (toV (e_fr (i := 10) rfl (by first | exact Or.inl rfl | exact Or.inr (Or.inl rfl) | exact Or.inr (Or.inr rfl) | exact Or.inr rfl) rfl rfl)))) (a_cons (st_rep _) (O_toE (x_bin o_add (toV (e_fr (i := 10) rfl (by first | exact Or.inl rfl | exact Or.inr (Or.inl rfl) | exact Or.inr (Or.inr rfl) | exact Or.inr rfl) rfl rfl)) (toV (x_ix (toV (e_fr (i := 6) rfl (by first | exact Or.inl rfl | exact Or.inr (Or.inl rfl) | exact Or.inr (Or.inr rfl) | exact Or.inr rfl) rfl rfl)) (toV e_int))))) (a_cons (st_rep _) (O_toE (x_sl (toV (x_ix (toV (e_fr (i := 6) rfl (by first | exact Or.inl rfl | exact Or.inr (Or.inl rfl) | exact Or.inr (Or.inr rfl) | exact Or.inr rfl) rfl rfl)) (toV e_int))) (x_some e_int) p_none)) (a_cons (st_rep _) (O_toE (x_sl (toV (x_ix (toV (e_fr (i := 6) rfl (by first | exact Or.inl rfl | exact Or.inr (Or.inl rfl) | exact Or.inr (Or.inr rfl) | exact Or.inr rfl) rfl rfl)) (toV e_int))) p_none (x_some (e_neg e_int)))) (a_cons (st_rep _) (O_toE (x_bin o_add (toV (x_ix (toV (e_fr (i := 6) rfl (by first | exact Or.inl rfl | exact Or.inr (Or.inl rfl) | exact Or.inr (Or.inr rfl) | exact Or.inr rfl) rfl rfl)) (toV e_int))) (toV (e_str (by decide +kernel) (by decide +kernel))))) (a_cons (st_rep _) (e_str (by decide +kernel) (by decide +kernel)) a_nil)))))) (hp1 (hp1 (hp1 (hp1 (hp1 (hp1 hp0)))))) (by decide) rfl)) (O_toV (x_bin o_mod (O_toV (e_t1 o_int (st_view _) (by rfl) B.n_int bt_int (toV (x_ix (toV (e_fr (i := 3) rfl (by first | exact Or.inl rfl | exact Or.inr (Or.inl rfl) | exact Or.inr (Or.inr rfl) | exact Or.inr rfl) rfl rfl)) (toV e_int))))) (toV e_int)))) (a_cons (st_rep _) (x_ix (toV (e_fr (i := 6) rfl (by first | exact Or.inl rfl | exact Or.inr (Or.inl rfl) | exact Or.inr (Or.inr rfl) | exact Or.inr rfl) rfl rfl)) (toV e_int)) a_nil)) (hp1 (hp1 hp0)) (by decide) rfl) (fun d16 =>
(s_nil (env' := [a0, PyData.none, PyData.none, PyData.none, d3, PyData.none, d16, PyData.none, PyData.none, PyData.none, PyData.none]) (fun r h => ⟨d16, rfl, h⟩) ⟨.inl ⟨rfl, rfl⟩, .inr rfl, .inr rfl, .inr rfl, .inl ⟨rfl, rfl⟩, .inr rfl, .inl ⟨rfl, rfl⟩, .inr rfl, .inr rfl, .inr rfl, .inr rfl, trivial⟩)))))
(s_one (z_ret rfl (O_toE (x_bin o_add (O_toV (x_sl (toV (e_fr (i := 0) rfl (by first | exact Or.inl rfl | exact Or.inr (Or.inl rfl) | exact Or.inr (Or.inr rfl) | exact Or.inr rfl) rfl rfl)) p_none (x_some (O_toE (x_bin o_add (toV (e_fr (i := 4) rfl (by first | exact Or.inl rfl | exact Or.inr (Or.inl rfl) | exact Or.inr (Or.inr rfl) | exact Or.inr rfl) rfl rfl)) (toV e_int)))))) (O_toV (x_sl (toV (e_fr (i := 0) rfl (by first | exact Or.inl rfl | exact Or.inr (Or.inl rfl) | exact Or.inr (Or.inr rfl) | exact Or.inr rfl) rfl rfl)) (x_some (e_fr (i := 4) rfl (by first | exact Or.inl rfl | exact Or.inr (Or.inl rfl) | exact Or.inr (Or.inr rfl) | exact Or.inr rfl) rfl rfl)) p_none)))) (by exact (fun d r h => Option.some.inj h))))))))))))))))) (fun t8 =>
(s_one (z_ret rfl (O_toE (x_bin o_add (O_toV (x_bin o_add (O_toV (x_sl (toV (e_fr (i := 0) rfl (by first | exact Or.inl rfl | exact Or.inr (Or.inl rfl) | exact Or.inr (Or.inr rfl) | exact Or.inr rfl) rfl rfl)) p_none (x_some (e_fr (i := 4) rfl (by first | exact Or.inl rfl | exact Or.inr (Or.inl rfl) | exact Or.inr (Or.inr rfl) | exact Or.inr rfl) rfl rfl)))) (O_toV (x_lst (a_cons (st_rep _) (e_fr (i := 6) rfl (by first | exact Or.inl rfl | exact Or.inr (Or.inl rfl) | exact Or.inr (Or.inr rfl) | exact Or.inr rfl) rfl rfl) a_nil) (hp1 hp0) (by decide) rfl)))) (O_toV (x_sl (toV (e_fr (i := 0) rfl (by first | exact Or.inl rfl | exact Or.inr (Or.inl rfl) | exact Or.inr (Or.inr rfl) | exact Or.inr rfl) rfl rfl)) (x_some (O_toE (x_bin o_add (toV (e_fr (i := 4) rfl (by first | exact Or.inl rfl | exact Or.inr (Or.inl rfl) | exact Or.inr (Or.inr rfl) | exact Or.inr rfl) rfl rfl)) (toV e_int)))) p_none)))) (by exact (fun d r h => Option.some.inj h))))))))))))))))
abbrev st__law_is_told : Stmt := topS 23
theorem sc__law_is_told : FnScope ["runs", "k", "lines", "run", "told"] ["runs", "k", "lines", "run"] (defScope st__law_is_told) := ⟨rfl, rfl, rfl, by decide +kernel, rfl, by decide +kernel, by decide +kernel⟩
theorem ok__law_is_told {P : Program} {w : World} {K : PySem.W.Frag} {mg : Str → Option Value} {base : Heap} {f : Addr} {fd : FuncData} {tb : Addr → Prop} (F : Fun K "_law_is_told" "_law_is_told" st__law_is_told f fd) (B : Bi mg) (C__law_derives : CallOk ⟨P, w, K, tb⟩ mg base "_law_derives" 2 [.fr, .fr, .fr, .fr] .fr (ap4 m__law_derives)) (C_judge_derivation : CallOk ⟨P, w, K, tb⟩ mg base "judge_derivation" 2 [.fr, .fr, .fr, .fr] .fr (ap4 m_judge_derivation)) : FnOk P w K mg base CX0 3 f fd ["runs", "k", "lines", "run"] (spD ⟨P, w, K, tb⟩ [.fr, .fr, .fr, .fr] .fr (ap4 m__law_is_told)) := by
  refine f_ok F sc__law_is_told rfl (by decide) fun cdv A outer s H E ds hr hd => ?_
  obtain ⟨a0, a1, a2, a3, rfl⟩ := len4 hd
  show PSs _ _ (tS _ [.fr, .fr, .fr, .fr, .un] [a0, a1, a2, a3, PyData.none] _ (m__law_is_told a0 a1 a2 a3))
  unfold m__law_is_told
  exact (s_asg sc__law_is_told.nd (i := 4) rfl (by first | exact Or.inl rfl | exact Or.inr (Or.inl rfl) | exact Or.inr (Or.inr rfl) | exact Or.inr rfl) (by decide) (O_toE (e_call C_judge_derivation hr (by decide) (by rfl) (a_cons (st_rep _) (e_fr (i := 0) rfl (by first | exact Or.inl rfl | exact Or.inr (Or.inl rfl) | exact Or.inr (Or.inr rfl) | exact Or.inr rfl) rfl rfl) (a_cons (st_rep _) (e_fr (i := 1) rfl (by first | exact Or.inl rfl | exact Or.inr (Or.inl rfl) | exact Or.inr (Or.inr rfl) | exact Or.inr rfl) rfl rfl) (a_cons (st_rep _) (e_fr (i := 2) rfl (by first | exact Or.inl rfl | exact Or.inr (Or.inl rfl) | exact Or.inr (Or.inr rfl) | exact Or.inr rfl) rfl rfl) (a_cons (st_rep _) (e_fr (i := 3) rfl (by first | exact Or.inl rfl | exact Or.inr (Or.inl rfl) | exact Or.inr (Or.inr rfl) | exact Or.inr rfl) rfl rfl) a_nil)))) rfl)) (fun d1 =>
(s_one (z_ret rfl (e_and (e_isi (by rfl) B.n_isinstance (by rfl) B.n_bool bt_bool (toV (e_fr (i := 4) rfl (by first | exact Or.inl rfl | exact Or.inr (Or.inl rfl) | exact Or.inr (Or.inr rfl) | exact Or.inr rfl) rfl rfl))) (e_and1 (x_cmp (o_eq hr) (toV (e_fr (i := 4) rfl (by first | exact Or.inl rfl | exact Or.inr (Or.inl rfl) | exact Or.inr (Or.inr rfl) | exact Or.inr rfl) rfl rfl)) (toV (O_toE (e_call C__law_derives hr (by decide) (by rfl) (a_cons (st_rep _) (e_fr (i := 0) rfl (by first | exact Or.inl rfl | exact Or.inr (Or.inl rfl) | exact Or.inr (Or.inr rfl) | exact Or.inr rfl) rfl rfl) (a_cons (st_rep _) (e_fr (i := 1) rfl (by first | exact Or.inl rfl | exact Or.inr (Or.inl rfl) | exact Or.inr (Or.inr rfl) | exact Or.inr rfl) rfl rfl) (a_cons (st_rep _) (e_fr (i := 2) rfl (by first | exact Or.inl rfl | exact Or.inr (Or.inl rfl) | exact Or.inr (Or.inr rfl) | exact Or.inr rfl) rfl rfl) (a_cons (st_rep _) (e_fr (i := 3) rfl (by first | exact Or.inl rfl | exact Or.inr (Or.inl rfl) | exact Or.inr (Or.inr rfl) | exact Or.inr rfl) rfl rfl) a_nil)))) rfl))) (nomark _)))) (by exact (fun d r h => Option.some.inj h))))))
abbrev st_law : Stmt := topS 24
theorem sc_law : FnScope ["script", "seen", "runs", "k", "draws", "good", "other", "near", "papers", "turn", "paper", "lines", "last"] ["script"] (defScope st_law) := ⟨rfl, rfl, rfl, by decide +kernel, rfl, by decide +kernel, by decide +kernel⟩
theorem ok_law {P : Program} {w : World} {K : PySem.W.Frag} {mg : Str → Option Value} {base : Heap} {f : Addr} {fd : FuncData} {tb : Addr → Prop} (F : Fun K "law" "law" st_law f fd) (B : Bi mg) (C__law_cell : CallOk ⟨P, w, K, tb⟩ mg base "_law_cell" 1 [.sc, .fr] .fr (ap2 m__law_cell)) (C__law_draws : CallOk ⟨P, w, K, tb⟩ mg base "_law_draws" 1 [.fr, .fr] .fr (ap2 m__law_draws)) (C__law_is_run : CallOk ⟨P, w, K, tb⟩ mg base "_law_is_run" 1 [.fr] .fr (ap1 m__law_is_run)) (C__law_is_told : CallOk ⟨P, w, K, tb⟩ mg base "_law_is_told" 3 [.fr, .fr, .fr, .fr] .fr (ap4 m__law_is_told)) (C__law_own_lines : CallOk ⟨P, w, K, tb⟩ mg base "_law_own_lines" 2 [.fr, .fr, .fr, .fr, .fr] .fr (ap5 m__law_own_lines)) (C__law_seen_any : CallOk ⟨P, w, K, tb⟩ mg base "_law_seen_any" 4 [.sc, .fr, .fr, .fr] .fr (ap4 m__law_seen_any)) (C__law_spoilt_lines : CallOk ⟨P, w, K, tb⟩ mg base "_law_spoilt_lines" 2 [.fr, .fr, .fr, .fr] .fr (ap4 m__law_spoilt_lines)) (C__law_word : CallOk ⟨P, w, K, tb⟩ mg base "_law_word" 1 [.fr, .fr, .fr] .fr (ap3 m__law_word)) : FnOk P w K mg base CX0 5 f fd ["script"] (spD ⟨P, w, K, tb⟩ [.sc] .fr (ap1 m_law)) := by
  refine f_ok F sc_law rfl (by decide) fun cdv A outer s H E ds hr hd => ?_
  obtain ⟨a0, rfl⟩ := List.length_eq_one_iff.mp hd
  show PSs _ _ (tS _ [.sc, .un, .un, .un, .un, .un, .un, .un, .un, .un, .un, .un, .un] [a0, PyData.none, PyData.none, PyData.none, PyData.none, PyData.none, PyData.none, PyData.none, PyData.none, PyData.none, PyData.none, PyData.none, PyData.none] _ (m_law a0))
  unfold m_law
  exact (s_asg sc_law.nd (i := 1) rfl (by first | exact Or.inl rfl | exact Or.inr (Or.inl rfl) | exact Or.inr (Or.inr rfl) | exact Or.inr rfl) (by decide) (O_toE (e_call C__law_seen_any hr (by decide) (by rfl) (a_cons (st_scr _) (e_sc (i := 0) rfl (by first | exact Or.inl rfl | exact Or.inr (Or.inl rfl) | exact Or.inr (Or.inr rfl) | exact Or.inr rfl) rfl rfl) (a_cons (st_rep _) e_int (a_cons (st_rep _) e_int (a_cons (st_rep _) e_int a_nil)))) rfl)) (fun d1 =>
(s_asg sc_law.nd (i := 2) rfl (by first | exact Or.inl rfl | exact Or.inr (Or.inl rfl) | exact Or.inr (Or.inr rfl) | exact Or.inr rfl) (by decide) (O_toE (x_sl (toV (x_ix (toV (e_fr (i := 1) rfl (by first | exact Or.inl rfl | exact Or.inr (Or.inl rfl) | exact Or.inr (Or.inr rfl) | exact Or.inr rfl) rfl rfl)) (toV e_int))) p_none (x_some e_int))) (fun d2 =>
(s_asg sc_law.nd (i := 3) rfl (by first | exact Or.inl rfl | exact Or.inr (Or.inl rfl) | exact Or.inr (Or.inr rfl) | exact Or.inr rfl) (by decide) (x_ix (toV (e_fr (i := 1) rfl (by first | exact Or.inl rfl | exact Or.inr (Or.inl rfl) | exact Or.inr (Or.inr rfl) | exact Or.inr rfl) rfl rfl)) (toV e_int)) (fun d3 =>
(s_asg sc_law.nd (i := 4) rfl (by first | exact Or.inl rfl | exact Or.inr (Or.inl rfl) | exact Or.inr (Or.inr rfl) | exact Or.inr rfl) (by decide) (O_toE (e_call C__law_draws hr (by decide) (by rfl) (a_cons (st_rep _) (O_toE (e_call C__law_cell hr (by decide) (by rfl) (a_cons (st_scr _) (e_sc (i := 0) rfl (by first | exact Or.inl rfl | exact Or.inr (Or.inl rfl) | exact Or.inr (Or.inr rfl) | exact Or.inr rfl) rfl rfl) (a_cons (st_rep _) e_int a_nil)) rfl)) (a_cons (st_rep _) e_int a_nil)) rfl)) (fun d4 =>
(s_asg sc_law.nd (i := 5) rfl (by first | exact Or.inl rfl | exact Or.inr (Or.inl rfl) | exact Or.inr (Or.inr rfl) | exact Or.inr rfl) (by decide) (O_toE (e_call C__law_own_lines hr (by decide) (by rfl) (a_cons (st_rep _) (e_fr (i := 2) rfl (by first | exact Or.inl rfl | exact Or.inr (Or.inl rfl) | exact Or.inr (Or.inr rfl) | exact Or.inr rfl) rfl rfl) (a_cons (st_rep _) (e_fr (i := 3) rfl (by first | exact Or.inl rfl | exact Or.inr (Or.inl rfl) | exact Or.inr (Or.inr rfl) | exact Or.inr rfl) rfl rfl) (a_cons (st_rep _) (O_toE (x_sl (toV (e_fr (i := 4) rfl (by first | exact Or.inl rfl | exact Or.inr (Or.inl rfl) | exact Or.inr (Or.inr rfl) | exact Or.inr rfl) rfl rfl)) p_none (x_some e_int))) (a_cons (st_rep _) e_int (a_cons (st_rep _) e_int a_nil))))) rfl)) (fun d5 =>
(s_asg sc_law.nd (i := 6) rfl (by first | exact Or.inl rfl | exact Or.inr (Or.inl rfl) | exact Or.inr (Or.inr rfl) | exact Or.inr rfl) (by decide) (O_toE (e_call C__law_word hr (by decide) (by rfl) (a_cons (st_rep _) (x_ix (toV (e_fr (i := 4) rfl (by first | exact Or.inl rfl | exact Or.inr (Or.inl rfl) | exact Or.inr (Or.inr rfl) | exact Or.inr rfl) rfl rfl)) (toV e_int)) (a_cons (st_rep _) (x_ix (toV (e_fr (i := 1) rfl (by first | exact Or.inl rfl | exact Or.inr (Or.inl rfl) | exact Or.inr (Or.inr rfl) | exact Or.inr rfl) rfl rfl)) (toV e_int)) (a_cons (st_rep _) e_int a_nil))) rfl)) (fun d6 =>
(s_asg sc_law.nd (i := 7) rfl (by first | exact Or.inl rfl | exact Or.inr (Or.inl rfl) | exact Or.inr (Or.inr rfl) | exact Or.inr rfl) (by decide) (x_if (y_cmp (o_eq hr) (O_toV (x_bin o_mod (O_toV (e_t1 o_int (st_view _) (by rfl) B.n_int bt_int (toV (x_ix (toV (e_fr (i := 4) rfl (by first | exact Or.inl rfl | exact Or.inr (Or.inl rfl) | exact Or.inr (Or.inr rfl) | exact Or.inr rfl) rfl rfl)) (toV e_int))))) (toV e_int))) (toV e_int) (nomark _)) (O_toE (x_b2 (o_max2 rfl) (by rfl) B.n_max bt_max (toV e_int) (O_toV (x_bin o_sub (toV (e_fr (i := 3) rfl (by first | exact Or.inl rfl | exact Or.inr (Or.inl rfl) | exact Or.inr (Or.inr rfl) | exact Or.inr rfl) rfl rfl)) (toV e_int))))) (O_toE (x_b2 (o_min2 rfl) (by rfl) B.n_min bt_min (toV e_int) (O_toV (x_bin o_add (toV (e_fr (i := 3) rfl (by first | exact Or.inl rfl | exact Or.inr (Or.inl rfl) | exact Or.inr (Or.inr rfl) | exact Or.inr rfl) rfl rfl)) (toV e_int)))))) (fun d7 =>
(s_own (T := .any) sc_law.nd (i := 8) rfl (by first | exact Or.inl rfl | exact Or.inr (Or.inl rfl) | exact Or.inr (Or.inr rfl) | exact Or.inr rfl) (by decide) (x_lst (a_cons (st_rep _) (e_fr (i := 5) rfl (by first | exact Or.inl rfl | exact Or.inr (Or.inl rfl) | exact Or.inr (Or.inr rfl) | exact Or.inr rfl) rfl rfl) (a_cons (st_rep _) (O_toE (x_lst a_nil hp0 (by decide) rfl)) a_nil)) (hp1 (hp1 hp0)) (by decide) rfl) (fun d8 =>
(s_jn (emb := fun (t10 : PyData) => [a0, d1, d2, d3, PyData.none, d5, d6, d7, t10, PyData.none, PyData.none, PyData.none, PyData.none]) (sh' := [.sc, .fr, .fr, .fr, .un, .fr, .fr, .fr, .ow .any, .un, .un, .un, .un]) (fun k9 => z_if (y_cmp (o_gt hr) (O_toV (e_b1 o_len (st_view _) (by rfl) B.n_len bt_len (toV (e_fr (i := 2) rfl (by first | exact Or.inl rfl | exact Or.inr (Or.inl rfl) | exact Or.inr (Or.inr rfl) | exact Or.inr rfl) rfl rfl)))) (toV e_int) (nomark _))
(s_app (i := 8) rfl rfl (pe_bm PySem.F.plainAttrs_list PySem.F.slot_list_append PySem.F.type_list_append mt_append (pe_var (i := 8) rfl (by first | exact Or.inl rfl | exact Or.inr (Or.inl rfl) | exact Or.inr (Or.inr rfl) | exact Or.inr rfl) (by decide) (by decide)) (pa_cons (O_toE (x_bin o_add (toV (O_toE (e_call C__law_own_lines hr (by decide) (by rfl) (a_cons (st_rep _) (e_fr (i := 2) rfl (by first | exact Or.inl rfl | exact Or.inr (Or.inl rfl) | exact Or.inr (Or.inr rfl) | exact Or.inr rfl) rfl rfl) (a_cons (st_rep _) (e_fr (i := 3) rfl (by first | exact Or.inl rfl | exact Or.inr (Or.inl rfl) | exact Or.inr (Or.inr rfl) | exact Or.inr rfl) rfl rfl) (a_cons (st_rep _) (O_toE (x_sl (toV (e_fr (i := 4) rfl (by first | exact Or.inl rfl | exact Or.inr (Or.inl rfl) | exact Or.inr (Or.inr rfl) | exact Or.inr rfl) rfl rfl)) p_none (x_some e_int))) (a_cons (st_rep _) e_int (a_cons (st_rep _) e_int a_nil))))) rfl))) (O_toV (x_lst (a_cons (st_rep _) (x_tup (a_cons (st_rep _) (x_ix (toV (e_fr (i := 2) rfl (by first | exact Or.inl rfl | exact Or.inr (Or.inl rfl) | exact Or.inr (Or.inr rfl) | exact Or.inr rfl) rfl rfl)) (toV e_int)) (a_cons (st_rep _) (x_tup a_nil hp0 (by decide) rfl) a_nil)) (hp1 (hp1 hp0)) (by decide) rfl) a_nil) (hp1 hp0) (by decide) rfl)))) pa_nil)) (fun d11 =>
(s_nil (env' := [a0, d1, d2, d3, PyData.none, d5, d6, d7, d11, PyData.none, PyData.none, PyData.none, PyData.none]) (fun r h => ⟨d11, rfl, h⟩) ⟨.inl ⟨rfl, rfl⟩, .inl ⟨rfl, rfl⟩, .inl ⟨rfl, rfl⟩, .inl ⟨rfl, rfl⟩, .inr rfl, .inl ⟨rfl, rfl⟩, .inl ⟨rfl, rfl⟩, .inl ⟨rfl, rfl⟩, .inl ⟨rfl, rfl⟩, .inr rfl, .inr rfl, .inr rfl, .inr rfl, trivial⟩)))
(s_nil (env' := [a0, d1, d2, d3, PyData.none, d5, d6, d7, d8, PyData.none, PyData.none, PyData.none, PyData.none]) (fun r h => ⟨d8, rfl, h⟩) ⟨.inl ⟨rfl, rfl⟩, .inl ⟨rfl, rfl⟩, .inl ⟨rfl, rfl⟩, .inl ⟨rfl, rfl⟩, .inr rfl, .inl ⟨rfl, rfl⟩, .inl ⟨rfl, rfl⟩, .inl ⟨rfl, rfl⟩, .inl ⟨rfl, rfl⟩, .inr rfl, .inr rfl, .inr rfl, .inr rfl, trivial⟩)) (fun t10 =>
(s_jn (emb := fun (t14 : PyData) => [a0, d1, d2, d3, PyData.none, d5, d6, d7, t14, PyData.none, PyData.none, PyData.none, PyData.none]) (sh' := [.sc, .fr, .fr, .fr, .un, .fr, .fr, .fr, .ow .any, .un, .un, .un, .un]) (fun k12 => z_for (t0 := t10) PassesOwn.never rfl ⟨.inl ⟨rfl, rfl⟩, .inl ⟨rfl, rfl⟩, .inl ⟨rfl, rfl⟩, .inl ⟨rfl, rfl⟩, .inr rfl, .inl ⟨rfl, rfl⟩, .inl ⟨rfl, rfl⟩, .inl ⟨rfl, rfl⟩, .inl ⟨rfl, rfl⟩, .inr rfl, .inr rfl, .inr rfl, .inr rfl, trivial⟩ (i_rng1 (by rfl) B.n_range e_int) (fun t13 => (g_name (i := 9) sc_law.nd rfl (by first | exact Or.inl rfl | exact Or.inr (Or.inl rfl) | exact Or.inr (Or.inr rfl) | exact Or.inr rfl) (by decide))) (fun t13 z26 =>
(s_app (i := 8) rfl rfl (pe_bm PySem.F.plainAttrs_list PySem.F.slot_list_append PySem.F.type_list_append mt_append (pe_var (i := 8) rfl (by first | exact Or.inl rfl | exact Or.inr (Or.inl rfl) | exact Or.inr (Or.inr rfl) | exact Or.inr rfl) (by decide) (by decide)) (pa_cons (O_toE (e_call C__law_spoilt_lines hr (by decide) (by rfl) (a_cons (st_rep _) (e_fr (i := 5) rfl (by first | exact Or.inl rfl | exact Or.inr (Or.inl rfl) | exact Or.inr (Or.inr rfl) | exact Or.inr rfl) rfl rfl) (a_cons (st_rep _) (e_fr (i := 3) rfl (by first | exact Or.inl rfl | exact Or.inr (Or.inl rfl) | exact Or.inr (Or.inr rfl) | exact Or.inr rfl) rfl rfl) (a_cons (st_rep _) (x_ix (toV (e_fr (i := 1) rfl (by first | exact Or.inl rfl | exact Or.inr (Or.inl rfl) | exact Or.inr (Or.inr rfl) | exact Or.inr rfl) rfl rfl)) (toV e_int)) (a_cons (st_rep _) (O_toE (e_call C__law_draws hr (by decide) (by rfl) (a_cons (st_rep _) (O_toE (e_call C__law_cell hr (by decide) (by rfl) (a_cons (st_scr _) (e_sc (i := 0) rfl (by first | exact Or.inl rfl | exact Or.inr (Or.inl rfl) | exact Or.inr (Or.inr rfl) | exact Or.inr rfl) rfl rfl) (a_cons (st_rep _) (O_toE (x_bin o_add (toV e_int) (toV (e_fr (i := 9) rfl (by first | exact Or.inl rfl | exact Or.inr (Or.inl rfl) | exact Or.inr (Or.inr rfl) | exact Or.inr rfl) rfl rfl)))) a_nil)) rfl)) (a_cons (st_rep _) e_int a_nil)) rfl)) a_nil)))) rfl)) pa_nil)) (fun d27 =>
(s_nil (env' := [a0, d1, d2, d3, PyData.none, d5, d6, d7, d27, PyData.none, PyData.none, PyData.none, PyData.none]) (fun r h => ⟨d27, rfl, (Option.some.inj h).symm⟩) ⟨.inl ⟨rfl, rfl⟩, .inl ⟨rfl, rfl⟩, .inl ⟨rfl, rfl⟩, .inl ⟨rfl, rfl⟩, .inr rfl, .inl ⟨rfl, rfl⟩, .inl ⟨rfl, rfl⟩, .inl ⟨rfl, rfl⟩, .inl ⟨rfl, rfl⟩, .inr rfl, .inr rfl, .inr rfl, .inr rfl, trivial⟩))))) (fun t14 =>
(s_frz 8 rfl rfl
(s_jn (emb := fun (t17 : Unit) => [PyData.none, PyData.none, d2, d3, PyData.none, d5, d6, d7, t14, PyData.none, PyData.none, PyData.none, PyData.none]) (sh' := [.un, .un, .fr, .fr, .un, .fr, .fr, .fr, .fr, .un, .un, .un, .un]) (fun k15 => z_for (t0 := ()) PassesOwn.never rfl ⟨.inr rfl, .inr rfl, .inl ⟨rfl, rfl⟩, .inl ⟨rfl, rfl⟩, .inr rfl, .inl ⟨rfl, rfl⟩, .inl ⟨rfl, rfl⟩, .inl ⟨rfl, rfl⟩, .inl ⟨rfl, rfl⟩, .inr rfl, .inr rfl, .inr rfl, .inr rfl, trivial⟩ (i_any (O_toE (x_bin o_add (toV (e_fr (i := 8) rfl (by first | exact Or.inl rfl | exact Or.inr (Or.inl rfl) | exact Or.inr (Or.inr rfl) | exact Or.inr rfl) rfl rfl)) (O_toV (x_lst (a_cons (st_rep _) (e_fr (i := 5) rfl (by first | exact Or.inl rfl | exact Or.inr (Or.inl rfl) | exact Or.inr (Or.inr rfl) | exact Or.inr rfl) rfl rfl) a_nil) (hp1 hp0) (by decide) rfl))))) (fun t16 => (g_name (i := 10) sc_law.nd rfl (by first | exact Or.inl rfl | exact Or.inr (Or.inl rfl) | exact Or.inr (Or.inr rfl) | exact Or.inr rfl) (by decide))) (fun t16 z18 =>
(s_asg sc_law.nd (i := 11) rfl (by first | exact Or.inl rfl | exact Or.inr (Or.inl rfl) | exact Or.inr (Or.inr rfl) | exact Or.inr rfl) (by decide) (O_toE (e_t1 o_tup (st_view _) (by rfl) B.n_tuple bt_tuple (toV (e_fr (i := 10) rfl (by first | exact Or.inl rfl | exact Or.inr (Or.inl rfl) | exact Or.inr (Or.inr rfl) | exact Or.inr rfl) rfl rfl)))) (fun d19 =>
(s_asg sc_law.nd (i := 12) rfl (by first | exact Or.inl rfl | exact Or.inr (Or.inl rfl) | exact Or.inr (Or.inr rfl) | exact Or.inr rfl) (by decide) (e_fr (i := 6) rfl (by first | exact Or.inl rfl | exact Or.inr (Or.inl rfl) | exact Or.inr (Or.inr rfl) | exact Or.inr rfl) rfl rfl) (fun d20 =>
(s_jn (emb := fun (t22 : PyData) => [PyData.none, PyData.none, d2, d3, PyData.none, d5, d6, d7, t14, PyData.none, PyData.none, d19, t22]) (sh' := [.un, .un, .fr, .fr, .un, .fr, .fr, .fr, .fr, .un, .un, .fr, .fr]) (fun k21 => z_if (PW.pt (w_and (y_cmp (o_gt hr) (O_toV (e_b1 o_len (st_view _) (by rfl) B.n_len bt_len (toV (e_fr (i := 11) rfl (by first | exact Or.inl rfl | exact Or.inr (Or.inl rfl) | exact Or.inr (Or.inr rfl) | exact Or.inr rfl) rfl rfl)))) (toV e_int) (nomark _)) (w_and (t_val (toV (O_toE (e_call C__law_is_run hr (by decide) (by rfl) (a_cons (st_rep _) (x_ix (toV (x_ix (toV (e_fr (i := 11) rfl (by first | exact Or.inl rfl | exact Or.inr (Or.inl rfl) | exact Or.inr (Or.inr rfl) | exact Or.inr rfl) rfl rfl)) (toV (e_neg e_int)))) (toV e_int)) a_nil) rfl)))) (w_and1 (y_cmp (o_le hr) (O_toV (e_b1 o_len (st_view _) (by rfl) B.n_len bt_len (toV (x_ix (toV (x_ix (toV (e_fr (i := 11) rfl (by first | exact Or.inl rfl | exact Or.inr (Or.inl rfl) | exact Or.inr (Or.inr rfl) | exact Or.inr rfl) rfl rfl)) (toV (e_neg e_int)))) (toV e_int))))) (toV e_int) (nomark _))))))
(s_asg sc_law.nd (i := 12) rfl (by first | exact Or.inl rfl | exact Or.inr (Or.inl rfl) | exact Or.inr (Or.inr rfl) | exact Or.inr rfl) (by decide) (x_ix (toV (x_ix (toV (e_fr (i := 11) rfl (by first | exact Or.inl rfl | exact Or.inr (Or.inl rfl) | exact Or.inr (Or.inr rfl) | exact Or.inr rfl) rfl rfl)) (toV (e_neg e_int)))) (toV e_int)) (fun d23 =>
(s_nil (env' := [PyData.none, PyData.none, d2, d3, PyData.none, d5, d6, d7, t14, PyData.none, PyData.none, d19, d23]) (fun r h => ⟨d23, rfl, h⟩) ⟨.inr rfl, .inr rfl, .inl ⟨rfl, rfl⟩, .inl ⟨rfl, rfl⟩, .inr rfl, .inl ⟨rfl, rfl⟩, .inl ⟨rfl, rfl⟩, .inl ⟨rfl, rfl⟩, .inl ⟨rfl, rfl⟩, .inr rfl, .inr rfl, .inl ⟨rfl, rfl⟩, .inl ⟨rfl, rfl⟩, trivial⟩)))
(s_nil (env' := [PyData.none, PyData.none, d2, d3, PyData.none, d5, d6, d7, t14, PyData.none, PyData.none, d19, d20]) (fun r h => ⟨d20, rfl, h⟩) ⟨.inr rfl, .inr rfl, .inl ⟨rfl, rfl⟩, .inl ⟨rfl, rfl⟩, .inr rfl, .inl ⟨rfl, rfl⟩, .inl ⟨rfl, rfl⟩, .inl ⟨rfl, rfl⟩, .inl ⟨rfl, rfl⟩, .inr rfl, .inr rfl, .inl ⟨rfl, rfl⟩, .inl ⟨rfl, rfl⟩, trivial⟩)) (fun t22 =>
(s_jn (emb := fun (t25 : Unit) => [PyData.none, PyData.none, d2, d3, PyData.none, d5, d6, d7, t14, PyData.none, PyData.none, d19, t22]) (sh' := [.un, .un, .fr, .fr, .un, .fr, .fr, .fr, .fr, .un, .un, .fr, .fr]) (fun k24 => z_if (PW.pt (w_or (y_not (t_val (toV (O_toE (e_call C__law_is_told hr (by decide) (by rfl) (a_cons (st_rep _) (e_fr (i := 2) rfl (by first | exact Or.inl rfl | exact Or.inr (Or.inl rfl) | exact Or.inr (Or.inr rfl) | exact Or.inr rfl) rfl rfl) (a_cons (st_rep _) (e_fr (i := 3) rfl (by first | exact Or.inl rfl | exact Or.inr (Or.inl rfl) | exact Or.inr (Or.inr rfl) | exact Or.inr rfl) rfl rfl) (a_cons (st_rep _) (e_fr (i := 11) rfl (by first | exact Or.inl rfl | exact Or.inr (Or.inl rfl) | exact Or.inr (Or.inr rfl) | exact Or.inr rfl) rfl rfl) (a_cons (st_rep _) (e_fr (i := 12) rfl (by first | exact Or.inl rfl | exact Or.inr (Or.inl rfl) | exact Or.inr (Or.inr rfl) | exact Or.inr rfl) rfl rfl) a_nil)))) rfl))))) (w_or1 (y_not (t_val (toV (O_toE (e_call C__law_is_told hr (by decide) (by rfl) (a_cons (st_rep _) (O_toE (x_rev (toV (e_fr (i := 2) rfl (by first | exact Or.inl rfl | exact Or.inr (Or.inl rfl) | exact Or.inr (Or.inr rfl) | exact Or.inr rfl) rfl rfl)))) (a_cons (st_rep _) (e_fr (i := 3) rfl (by first | exact Or.inl rfl | exact Or.inr (Or.inl rfl) | exact Or.inr (Or.inr rfl) | exact Or.inr rfl) rfl rfl) (a_cons (st_rep _) (e_fr (i := 11) rfl (by first | exact Or.inl rfl | exact Or.inr (Or.inl rfl) | exact Or.inr (Or.inr rfl) | exact Or.inr rfl) rfl rfl) (a_cons (st_rep _) (e_fr (i := 6) rfl (by first | exact Or.inl rfl | exact Or.inr (Or.inl rfl) | exact Or.inr (Or.inr rfl) | exact Or.inr rfl) rfl rfl) a_nil)))) rfl))))))))
(s_one (z_ret rfl e_bl (by exact (fun d r h => ⟨d, rfl, (Option.some.inj h).symm⟩))))
(s_nil (env' := [PyData.none, PyData.none, d2, d3, PyData.none, d5, d6, d7, t14, PyData.none, PyData.none, d19, t22]) (fun r h => ⟨(), rfl, h⟩) ⟨.inr rfl, .inr rfl, .inl ⟨rfl, rfl⟩, .inl ⟨rfl, rfl⟩, .inr rfl, .inl ⟨rfl, rfl⟩, .inl ⟨rfl, rfl⟩, .inl ⟨rfl, rfl⟩, .inl ⟨rfl, rfl⟩, .inr rfl, .inr rfl, .inl ⟨rfl, rfl⟩, .inl ⟨rfl, rfl⟩, trivial⟩)) (fun t25 =>
(s_one (z_if (y_not (t_val (toV (O_toE (e_call C__law_is_told hr (by decide) (by rfl) (a_cons (st_rep _) (e_fr (i := 2) rfl (by first | exact Or.inl rfl | exact Or.inr (Or.inl rfl) | exact Or.inr (Or.inr rfl) | exact Or.inr rfl) rfl rfl) (a_cons (st_rep _) (e_fr (i := 7) rfl (by first | exact Or.inl rfl | exact Or.inr (Or.inl rfl) | exact Or.inr (Or.inr rfl) | exact Or.inr rfl) rfl rfl) (a_cons (st_rep _) (e_fr (i := 11) rfl (by first | exact Or.inl rfl | exact Or.inr (Or.inl rfl) | exact Or.inr (Or.inr rfl) | exact Or.inr rfl) rfl rfl) (a_cons (st_rep _) (e_fr (i := 12) rfl (by first | exact Or.inl rfl | exact Or.inr (Or.inl rfl) | exact Or.inr (Or.inr rfl) | exact Or.inr rfl) rfl rfl) a_nil)))) rfl)))))
(s_one (z_ret rfl e_bl (by exact (fun d r h => ⟨d, rfl, (Option.some.inj h).symm⟩))))
(s_nil (env' := [PyData.none, PyData.none, d2, d3, PyData.none, d5, d6, d7, t14, PyData.none, PyData.none, PyData.none, PyData.none]) (fun r h => ⟨(), rfl, (Option.some.inj h).symm⟩) ⟨.inr rfl, .inr rfl, .inl ⟨rfl, rfl⟩, .inl ⟨rfl, rfl⟩, .inr rfl, .inl ⟨rfl, rfl⟩, .inl ⟨rfl, rfl⟩, .inl ⟨rfl, rfl⟩, .inl ⟨rfl, rfl⟩, .inr rfl, .inr rfl, .inr rfl, .inr rfl, trivial⟩))))))))))))) (fun t17 =>
(s_one (z_ret rfl e_bl (by exact (fun d r h => Option.some.inj h)))))))))))))))))))))))))))
/-! ### the whole -/
theorem all_mk {l : PySem.W.OpenLaw} {w : World} {K : PySem.W.Frag} {h : Heap} {mg : Str → Option Value} {fa f1 f2 f3 f4 f5 f6 f7 f8 f9 f10 f11 f12 f13 f14 f15 f16 f17 f18 f19 f20 f21 f22 f23 : Addr} (X : K.In h) (G : h.Ns mainGlobals mg) (hfa : mg "law" = some (.ref fa))
    {od1 an1 od2 an2 od3 an3 od4 an4 od5 an5 od6 an6 od7 an7 od8 an8 od9 an9 od10 an10 od11 an11 od12 an12 od13 an13 od14 an14 od15 an15 od16 an16 od17 an17 od18 an18 od19 an19 od20 an20 od21 an21 od22 an22 od23 an23 : Option Addr} {sl1 sl2 sl3 sl4 sl5 sl6 sl7 sl8 sl9 sl10 sl11 sl12 sl13 sl14 sl15 sl16 sl17 sl18 sl19 sl20 sl21 sl22 sl23 : Array (Option Value)} {oc1 kV1 dc1 pm1 cd1 ct1 oc2 kV2 dc2 pm2 cd2 ct2 oc3 kV3 dc3 pm3 cd3 ct3 oc4 kV4 dc4 pm4 cd4 ct4 oc5 kV5 dc5 pm5 cd5 ct5 oc6 kV6 dc6 pm6 cd6 ct6 oc7 kV7 dc7 pm7 cd7 ct7 oc8 kV8 dc8 pm8 cd8 ct8 oc9 kV9 dc9 pm9 cd9 ct9 oc10 kV10 dc10 pm10 cd10 ct10 oc11 kV11 dc11 pm11 cd11 ct11 oc12 kV12 dc12 pm12 cd12 ct12 oc13 kV13 dc13 pm13 cd13 ct13 oc14 kV14 dc14 pm14 cd14 ct14 oc15 kV15 dc15 pm15 cd15 ct15 oc16 kV16 dc16 pm16 cd16 ct16 oc17 kV17 dc17 pm17 cd17 ct17 oc18 kV18 dc18 pm18 cd18 ct18 oc19 kV19 dc19 pm19 cd19 ct19 oc20 kV20 dc20 pm20 cd20 ct20 oc21 kV21 dc21 pm21 cd21 ct21 oc22 kV22 dc22 pm22 cd22 ct22 oc23 kV23 dc23 pm23 cd23 ct23 : Value}
    (a1 : PySem.W.nsIn K mainGlobals "corner_run" = some (some (.ref f1))) (l1 : K.lookup f1 = some ⟨oc1, od1, .func (PySem.W.fnOf "corner_run" "corner_run" (defArgs st_corner_run) (defBody st_corner_run) (defScope st_corner_run) .none kV1 dc1 pm1 an1 cd1 ct1), sl1⟩) (c1 : PySem.W.codeIn K cd1 "corner_run" = true) (k1 : PySem.W.keepIn K (.ref f1) = true)
    (a2 : PySem.W.nsIn K mainGlobals "is_corner" = some (some (.ref f2))) (l2 : K.lookup f2 = some ⟨oc2, od2, .func (PySem.W.fnOf "is_corner" "is_corner" (defArgs st_is_corner) (defBody st_is_corner) (defScope st_is_corner) .none kV2 dc2 pm2 an2 cd2 ct2), sl2⟩) (c2 : PySem.W.codeIn K cd2 "is_corner" = true) (k2 : PySem.W.keepIn K (.ref f2) = true)
    (a3 : PySem.W.nsIn K mainGlobals "judge_derivation" = some (some (.ref f3))) (l3 : K.lookup f3 = some ⟨oc3, od3, .func (PySem.W.fnOf "judge_derivation" "judge_derivation" (defArgs st_judge_derivation) (defBody st_judge_derivation) (defScope st_judge_derivation) .none kV3 dc3 pm3 an3 cd3 ct3), sl3⟩) (c3 : PySem.W.codeIn K cd3 "judge_derivation" = true) (k3 : PySem.W.keepIn K (.ref f3) = true)
    (a4 : PySem.W.nsIn K mainGlobals "_law_cell" = some (some (.ref f4))) (l4 : K.lookup f4 = some ⟨oc4, od4, .func (PySem.W.fnOf "_law_cell" "_law_cell" (defArgs st__law_cell) (defBody st__law_cell) (defScope st__law_cell) .none kV4 dc4 pm4 an4 cd4 ct4), sl4⟩) (c4 : PySem.W.codeIn K cd4 "_law_cell" = true) (k4 : PySem.W.keepIn K (.ref f4) = true)
    (a5 : PySem.W.nsIn K mainGlobals "_law_draws" = some (some (.ref f5))) (l5 : K.lookup f5 = some ⟨oc5, od5, .func (PySem.W.fnOf "_law_draws" "_law_draws" (defArgs st__law_draws) (defBody st__law_draws) (defScope st__law_draws) .none kV5 dc5 pm5 an5 cd5 ct5), sl5⟩) (c5 : PySem.W.codeIn K cd5 "_law_draws" = true) (k5 : PySem.W.keepIn K (.ref f5) = true)
    (a6 : PySem.W.nsIn K mainGlobals "_law_is_integer" = some (some (.ref f6))) (l6 : K.lookup f6 = some ⟨oc6, od6, .func (PySem.W.fnOf "_law_is_integer" "_law_is_integer" (defArgs st__law_is_integer) (defBody st__law_is_integer) (defScope st__law_is_integer) .none kV6 dc6 pm6 an6 cd6 ct6), sl6⟩) (c6 : PySem.W.codeIn K cd6 "_law_is_integer" = true) (k6 : PySem.W.keepIn K (.ref f6) = true)
    (a7 : PySem.W.nsIn K mainGlobals "_law_is_run" = some (some (.ref f7))) (l7 : K.lookup f7 = some ⟨oc7, od7, .func (PySem.W.fnOf "_law_is_run" "_law_is_run" (defArgs st__law_is_run) (defBody st__law_is_run) (defScope st__law_is_run) .none kV7 dc7 pm7 an7 cd7 ct7), sl7⟩) (c7 : PySem.W.codeIn K cd7 "_law_is_run" = true) (k7 : PySem.W.keepIn K (.ref f7) = true)
    (a8 : PySem.W.nsIn K mainGlobals "_law_letters" = some (some (.ref f8))) (l8 : K.lookup f8 = some ⟨oc8, od8, .func (PySem.W.fnOf "_law_letters" "_law_letters" (defArgs st__law_letters) (defBody st__law_letters) (defScope st__law_letters) .none kV8 dc8 pm8 an8 cd8 ct8), sl8⟩) (c8 : PySem.W.codeIn K cd8 "_law_letters" = true) (k8 : PySem.W.keepIn K (.ref f8) = true)
    (a9 : PySem.W.nsIn K mainGlobals "_law_word" = some (some (.ref f9))) (l9 : K.lookup f9 = some ⟨oc9, od9, .func (PySem.W.fnOf "_law_word" "_law_word" (defArgs st__law_word) (defBody st__law_word) (defScope st__law_word) .none kV9 dc9 pm9 an9 cd9 ct9), sl9⟩) (c9 : PySem.W.codeIn K cd9 "_law_word" = true) (k9 : PySem.W.keepIn K (.ref f9) = true)
    (a10 : PySem.W.nsIn K mainGlobals "_law_runs" = some (some (.ref f10))) (l10 : K.lookup f10 = some ⟨oc10, od10, .func (PySem.W.fnOf "_law_runs" "_law_runs" (defArgs st__law_runs) (defBody st__law_runs) (defScope st__law_runs) .none kV10 dc10 pm10 an10 cd10 ct10), sl10⟩) (c10 : PySem.W.codeIn K cd10 "_law_runs" = true) (k10 : PySem.W.keepIn K (.ref f10) = true)
    (a11 : PySem.W.nsIn K mainGlobals "_law_derives" = some (some (.ref f11))) (l11 : K.lookup f11 = some ⟨oc11, od11, .func (PySem.W.fnOf "_law_derives" "_law_derives" (defArgs st__law_derives) (defBody st__law_derives) (defScope st__law_derives) .none kV11 dc11 pm11 an11 cd11 ct11), sl11⟩) (c11 : PySem.W.codeIn K cd11 "_law_derives" = true) (k11 : PySem.W.keepIn K (.ref f11) = true)
    (a12 : PySem.W.nsIn K mainGlobals "_law_k" = some (some (.ref f12))) (l12 : K.lookup f12 = some ⟨oc12, od12, .func (PySem.W.fnOf "_law_k" "_law_k" (defArgs st__law_k) (defBody st__law_k) (defScope st__law_k) .none kV12 dc12 pm12 an12 cd12 ct12), sl12⟩) (c12 : PySem.W.codeIn K cd12 "_law_k" = true) (k12 : PySem.W.keepIn K (.ref f12) = true)
    (a13 : PySem.W.nsIn K mainGlobals "_law_seen" = some (some (.ref f13))) (l13 : K.lookup f13 = some ⟨oc13, od13, .func (PySem.W.fnOf "_law_seen" "_law_seen" (defArgs st__law_seen) (defBody st__law_seen) (defScope st__law_seen) .none kV13 dc13 pm13 an13 cd13 ct13), sl13⟩) (c13 : PySem.W.codeIn K cd13 "_law_seen" = true) (k13 : PySem.W.keepIn K (.ref f13) = true)
    (a14 : PySem.W.nsIn K mainGlobals "_law_fit" = some (some (.ref f14))) (l14 : K.lookup f14 = some ⟨oc14, od14, .func (PySem.W.fnOf "_law_fit" "_law_fit" (defArgs st__law_fit) (defBody st__law_fit) (defScope st__law_fit) .none kV14 dc14 pm14 an14 cd14 ct14), sl14⟩) (c14 : PySem.W.codeIn K cd14 "_law_fit" = true) (k14 : PySem.W.keepIn K (.ref f14) = true)
    (a15 : PySem.W.nsIn K mainGlobals "_law_long_runs" = some (some (.ref f15))) (l15 : K.lookup f15 = some ⟨oc15, od15, .func (PySem.W.fnOf "_law_long_runs" "_law_long_runs" (defArgs st__law_long_runs) (defBody st__law_long_runs) (defScope st__law_long_runs) .none kV15 dc15 pm15 an15 cd15 ct15), sl15⟩) (c15 : PySem.W.codeIn K cd15 "_law_long_runs" = true) (k15 : PySem.W.keepIn K (.ref f15) = true)
    (a16 : PySem.W.nsIn K mainGlobals "_law_seen_any" = some (some (.ref f16))) (l16 : K.lookup f16 = some ⟨oc16, od16, .func (PySem.W.fnOf "_law_seen_any" "_law_seen_any" (defArgs st__law_seen_any) (defBody st__law_seen_any) (defScope st__law_seen_any) .none kV16 dc16 pm16 an16 cd16 ct16), sl16⟩) (c16 : PySem.W.codeIn K cd16 "_law_seen_any" = true) (k16 : PySem.W.keepIn K (.ref f16) = true)
    (a17 : PySem.W.nsIn K mainGlobals "_law_drawn_line" = some (some (.ref f17))) (l17 : K.lookup f17 = some ⟨oc17, od17, .func (PySem.W.fnOf "_law_drawn_line" "_law_drawn_line" (defArgs st__law_drawn_line) (defBody st__law_drawn_line) (defScope st__law_drawn_line) .none kV17 dc17 pm17 an17 cd17 ct17), sl17⟩) (c17 : PySem.W.codeIn K cd17 "_law_drawn_line" = true) (k17 : PySem.W.keepIn K (.ref f17) = true)
    (a18 : PySem.W.nsIn K mainGlobals "_law_own_lines" = some (some (.ref f18))) (l18 : K.lookup f18 = some ⟨oc18, od18, .func (PySem.W.fnOf "_law_own_lines" "_law_own_lines" (defArgs st__law_own_lines) (defBody st__law_own_lines) (defScope st__law_own_lines) .none kV18 dc18 pm18 an18 cd18 ct18), sl18⟩) (c18 : PySem.W.codeIn K cd18 "_law_own_lines" = true) (k18 : PySem.W.keepIn K (.ref f18) = true)
    (a19 : PySem.W.nsIn K mainGlobals "_law_spoilt_number" = some (some (.ref f19))) (l19 : K.lookup f19 = some ⟨oc19, od19, .func (PySem.W.fnOf "_law_spoilt_number" "_law_spoilt_number" (defArgs st__law_spoilt_number) (defBody st__law_spoilt_number) (defScope st__law_spoilt_number) .none kV19 dc19 pm19 an19 cd19 ct19), sl19⟩) (c19 : PySem.W.codeIn K cd19 "_law_spoilt_number" = true) (k19 : PySem.W.keepIn K (.ref f19) = true)
    (a20 : PySem.W.nsIn K mainGlobals "_law_near_line" = some (some (.ref f20))) (l20 : K.lookup f20 = some ⟨oc20, od20, .func (PySem.W.fnOf "_law_near_line" "_law_near_line" (defArgs st__law_near_line) (defBody st__law_near_line) (defScope st__law_near_line) .none kV20 dc20 pm20 an20 cd20 ct20), sl20⟩) (c20 : PySem.W.codeIn K cd20 "_law_near_line" = true) (k20 : PySem.W.keepIn K (.ref f20) = true)
    (a21 : PySem.W.nsIn K mainGlobals "_law_spoilt_lines" = some (some (.ref f21))) (l21 : K.lookup f21 = some ⟨oc21, od21, .func (PySem.W.fnOf "_law_spoilt_lines" "_law_spoilt_lines" (defArgs st__law_spoilt_lines) (defBody st__law_spoilt_lines) (defScope st__law_spoilt_lines) .none kV21 dc21 pm21 an21 cd21 ct21), sl21⟩) (c21 : PySem.W.codeIn K cd21 "_law_spoilt_lines" = true) (k21 : PySem.W.keepIn K (.ref f21) = true)
    (a22 : PySem.W.nsIn K mainGlobals "_law_is_told" = some (some (.ref f22))) (l22 : K.lookup f22 = some ⟨oc22, od22, .func (PySem.W.fnOf "_law_is_told" "_law_is_told" (defArgs st__law_is_told) (defBody st__law_is_told) (defScope st__law_is_told) .none kV22 dc22 pm22 an22 cd22 ct22), sl22⟩) (c22 : PySem.W.codeIn K cd22 "_law_is_told" = true) (k22 : PySem.W.keepIn K (.ref f22) = true)
    (a23 : PySem.W.nsIn K mainGlobals "law" = some (some (.ref f23))) (l23 : K.lookup f23 = some ⟨oc23, od23, .func (PySem.W.fnOf "law" "law" (defArgs st_law) (defBody st_law) (defScope st_law) .none kV23 dc23 pm23 an23 cd23 ct23), sl23⟩) (c23 : PySem.W.codeIn K cd23 "law" = true) (k23 : PySem.W.keepIn K (.ref f23) = true)
    (z1 : PySem.W.nsIn K mainGlobals "abs" = some none)    (z2 : PySem.W.nsIn K mainGlobals "all" = some none)    (z3 : PySem.W.nsIn K mainGlobals "any" = some none)    (z4 : PySem.W.nsIn K mainGlobals "bool" = some none)    (z5 : PySem.W.nsIn K mainGlobals "int" = some none)    (z6 : PySem.W.nsIn K mainGlobals "isinstance" = some none)    (z7 : PySem.W.nsIn K mainGlobals "len" = some none)    (z8 : PySem.W.nsIn K mainGlobals "list" = some none)    (z9 : PySem.W.nsIn K mainGlobals "max" = some none)    (z10 : PySem.W.nsIn K mainGlobals "min" = some none)    (z11 : PySem.W.nsIn K mainGlobals "range" = some none)    (z12 : PySem.W.nsIn K mainGlobals "sorted" = some none)    (z13 : PySem.W.nsIn K mainGlobals "str" = some none)    (z14 : PySem.W.nsIn K mainGlobals "tuple" = some none)
    {g2 P2 : Addr} {y2 : Value} {x2 : Option Addr} {v2 : Array Value} {s2 : Array (Option Value)}
    (tabs : ∀ (x : Str) (c P : Addr), (x = "is_corner") → PySem.W.tabIn K x = some (c, P) → PySem.W.CodeHd h c P ∧ h.get? P = some { cls := .none, data := .fields #[] })
    (r2 : cd2 = .ref g2) (p2 : K.lookup g2 = some ⟨y2, x2, .fields v2, s2⟩) (q2 : v2[11]? = some (.ref P2)) (u2 : K.lookup P2 = none)
 :
    ∃ (fd : FuncData) (cs : List (Addr × Addr)), (∀ p ∈ cs, h.get? p.2 = some { cls := .none, data := .fields #[] }) ∧ (∀ p ∈ cs, K.lookup p.2 = none) ∧ (∀ p ∈ cs, PySem.W.CodeHd h p.1 p.2) ∧ (∀ (s : Shared) (v : Value), BindsTo s fd ⟨[v], []⟩ [("script", v)]) ∧ ∀ base : Heap, K.In base → base.Ns mainGlobals mg → (∀ p ∈ cs, GxR.TabB base mg p.1 p.2) → FnOk l.prog w K mg base CX0 5 fa fd ["script"] (spD ⟨l.prog, w, K, tbOf cs⟩ [.sc] .fr (ap1 m_law)) := by
  have e := hfa.symm.trans (PySem.W.mg_of X G a23)
  cases e
  have B : Bi mg := ⟨PySem.W.mg_none_of X G z1, PySem.W.mg_none_of X G z2, PySem.W.mg_none_of X G z3, PySem.W.mg_none_of X G z4, PySem.W.mg_none_of X G z5, PySem.W.mg_none_of X G z6, PySem.W.mg_none_of X G z7, PySem.W.mg_none_of X G z8, PySem.W.mg_none_of X G z9, PySem.W.mg_none_of X G z10, PySem.W.mg_none_of X G z11, PySem.W.mg_none_of X G z12, PySem.W.mg_none_of X G z13, PySem.W.mg_none_of X G z14⟩
  have h2 := tabs "is_corner" g2 P2 (rfl) (tab_mk a2 l2 r2 p2 q2)
  refine ⟨PySem.W.fnOf "law" "law" (defArgs st_law) (defBody st_law) (defScope st_law) .none kV23 dc23 pm23 an23 cd23 ct23, [(g2, P2)], as1 h2.2 <| as0, as1 u2 <| as0, as1 h2.1 <| as0, fun s v => .of_eq rfl, fun base _ _ hT => ?_⟩
  have T2 : TbAt mg base (tbOf [(g2, P2)]) g2 P2 := ⟨hT (g2, P2) (.head _), ⟨(g2, P2), (.head _), rfl⟩⟩
  have F1 := fun_mk (st := st_corner_run) l1 c1 k1
  have C1 := callOk (w := w) (P := l.prog) (base := base) (tb := tbOf [(g2, P2)]) (ok_corner_run F1 B) (PySem.W.mg_of X G a1) k1 (F1.binds (ps := ["runs", "reason"]) fun _ _ _ _ _ _ us hl => match us, hl with | [_, _], _ => rfl)
  have F2 := fun_mk (st := st_is_corner) l2 c2 k2
  have C2 := callOk (w := w) (P := l.prog) (base := base) (tb := tbOf [(g2, P2)]) (ok_is_corner F2 B r2 T2) (PySem.W.mg_of X G a2) k2 (F2.binds (ps := ["runs", "k", "reason"]) fun _ _ _ _ _ _ us hl => match us, hl with | [_, _, _], _ => rfl)
  have F3 := fun_mk (st := st_judge_derivation) l3 c3 k3
  have C3 := callOk (w := w) (P := l.prog) (base := base) (tb := tbOf [(g2, P2)]) (ok_judge_derivation F3 B C1 C2) (PySem.W.mg_of X G a3) k3 (F3.binds (ps := ["runs", "k", "lines", "run"]) fun _ _ _ _ _ _ us hl => match us, hl with | [_, _, _, _], _ => rfl)
  have F4 := fun_mk (st := st__law_cell) l4 c4 k4
  have C4 := callOk (w := w) (P := l.prog) (base := base) (tb := tbOf [(g2, P2)]) (ok__law_cell F4 B) (PySem.W.mg_of X G a4) k4 (F4.binds (ps := ["script", "k"]) fun _ _ _ _ _ _ us hl => match us, hl with | [_, _], _ => rfl)
  have F5 := fun_mk (st := st__law_draws) l5 c5 k5
  have C5 := callOk (w := w) (P := l.prog) (base := base) (tb := tbOf [(g2, P2)]) (ok__law_draws F5 B) (PySem.W.mg_of X G a5) k5 (F5.binds (ps := ["cell", "count"]) fun _ _ _ _ _ _ us hl => match us, hl with | [_, _], _ => rfl)
  have F6 := fun_mk (st := st__law_is_integer) l6 c6 k6
  have C6 := callOk (w := w) (P := l.prog) (base := base) (tb := tbOf [(g2, P2)]) (ok__law_is_integer F6 B) (PySem.W.mg_of X G a6) k6 (F6.binds (ps := ["value"]) fun _ _ _ _ _ _ us hl => match us, hl with | [_], _ => rfl)
  have F7 := fun_mk (st := st__law_is_run) l7 c7 k7
  have C7 := callOk (w := w) (P := l.prog) (base := base) (tb := tbOf [(g2, P2)]) (ok__law_is_run F7 B) (PySem.W.mg_of X G a7) k7 (F7.binds (ps := ["value"]) fun _ _ _ _ _ _ us hl => match us, hl with | [_], _ => rfl)
  have F8 := fun_mk (st := st__law_letters) l8 c8 k8
  have C8 := callOk (w := w) (P := l.prog) (base := base) (tb := tbOf [(g2, P2)]) (ok__law_letters F8 B) (PySem.W.mg_of X G a8) k8 (F8.binds (ps := ["draw", "count"]) fun _ _ _ _ _ _ us hl => match us, hl with | [_, _], _ => rfl)
  have F9 := fun_mk (st := st__law_word) l9 c9 k9
  have C9 := callOk (w := w) (P := l.prog) (base := base) (tb := tbOf [(g2, P2)]) (ok__law_word F9 B) (PySem.W.mg_of X G a9) k9 (F9.binds (ps := ["draw", "letters", "longest"]) fun _ _ _ _ _ _ us hl => match us, hl with | [_, _, _], _ => rfl)
  have F10 := fun_mk (st := st__law_runs) l10 c10 k10
  have C10 := callOk (w := w) (P := l.prog) (base := base) (tb := tbOf [(g2, P2)]) (ok__law_runs F10 B C5 C9) (PySem.W.mg_of X G a10) k10 (F10.binds (ps := ["cell", "letters", "count", "longest"]) fun _ _ _ _ _ _ us hl => match us, hl with | [_, _, _, _], _ => rfl)
  have F11 := fun_mk (st := st__law_derives) l11 c11 k11
  have C11 := callOk (w := w) (P := l.prog) (base := base) (tb := tbOf [(g2, P2)]) (ok__law_derives F11 B C6 C7) (PySem.W.mg_of X G a11) k11 (F11.binds (ps := ["runs", "k", "lines", "run"]) fun _ _ _ _ _ _ us hl => match us, hl with | [_, _, _, _], _ => rfl)
  have F12 := fun_mk (st := st__law_k) l12 c12 k12
  have C12 := callOk (w := w) (P := l.prog) (base := base) (tb := tbOf [(g2, P2)]) (ok__law_k F12 B) (PySem.W.mg_of X G a12) k12 (F12.binds (ps := ["draw"]) fun _ _ _ _ _ _ us hl => match us, hl with | [_], _ => rfl)
  have F13 := fun_mk (st := st__law_seen) l13 c13 k13
  have C13 := callOk (w := w) (P := l.prog) (base := base) (tb := tbOf [(g2, P2)]) (ok__law_seen F13 B C4 C5 C12 C8 C10) (PySem.W.mg_of X G a13) k13 (F13.binds (ps := ["script", "at", "count", "longest"]) fun _ _ _ _ _ _ us hl => match us, hl with | [_, _, _, _], _ => rfl)
  have F14 := fun_mk (st := st__law_fit) l14 c14 k14
  have C14 := callOk (w := w) (P := l.prog) (base := base) (tb := tbOf [(g2, P2)]) (ok__law_fit F14 B) (PySem.W.mg_of X G a14) k14 (F14.binds (ps := ["runs", "most"]) fun _ _ _ _ _ _ us hl => match us, hl with | [_, _], _ => rfl)
  have F15 := fun_mk (st := st__law_long_runs) l15 c15 k15
  have C15 := callOk (w := w) (P := l.prog) (base := base) (tb := tbOf [(g2, P2)]) (ok__law_long_runs F15 B C5 C14 C9) (PySem.W.mg_of X G a15) k15 (F15.binds (ps := ["cell", "letters"]) fun _ _ _ _ _ _ us hl => match us, hl with | [_, _], _ => rfl)
  have F16 := fun_mk (st := st__law_seen_any) l16 c16 k16
  have C16 := callOk (w := w) (P := l.prog) (base := base) (tb := tbOf [(g2, P2)]) (ok__law_seen_any F16 B C4 C5 C15 C13) (PySem.W.mg_of X G a16) k16 (F16.binds (ps := ["script", "at", "count", "longest"]) fun _ _ _ _ _ _ us hl => match us, hl with | [_, _, _, _], _ => rfl)
  have F17 := fun_mk (st := st__law_drawn_line) l17 c17 k17
  have C17 := callOk (w := w) (P := l.prog) (base := base) (tb := tbOf [(g2, P2)]) (ok__law_drawn_line F17 B) (PySem.W.mg_of X G a17) k17 (F17.binds (ps := ["known", "k", "draws"]) fun _ _ _ _ _ _ us hl => match us, hl with | [_, _, _], _ => rfl)
  have F18 := fun_mk (st := st__law_own_lines) l18 c18 k18
  have C18 := callOk (w := w) (P := l.prog) (base := base) (tb := tbOf [(g2, P2)]) (ok__law_own_lines F18 B C17) (PySem.W.mg_of X G a18) k18 (F18.binds (ps := ["runs", "k", "draws", "count", "longest"]) fun _ _ _ _ _ _ us hl => match us, hl with | [_, _, _, _, _], _ => rfl)
  have F19 := fun_mk (st := st__law_spoilt_number) l19 c19 k19
  have C19 := callOk (w := w) (P := l.prog) (base := base) (tb := tbOf [(g2, P2)]) (ok__law_spoilt_number F19 B) (PySem.W.mg_of X G a19) k19 (F19.binds (ps := ["lines", "at", "k", "draws"]) fun _ _ _ _ _ _ us hl => match us, hl with | [_, _, _, _], _ => rfl)
  have F20 := fun_mk (st := st__law_near_line) l20 c20 k20
  have C20 := callOk (w := w) (P := l.prog) (base := base) (tb := tbOf [(g2, P2)]) (ok__law_near_line F20 B) (PySem.W.mg_of X G a20) k20 (F20.binds (ps := ["lines", "k", "at", "other", "draws"]) fun _ _ _ _ _ _ us hl => match us, hl with | [_, _, _, _, _], _ => rfl)
  have F21 := fun_mk (st := st__law_spoilt_lines) l21 c21 k21
  have C21 := callOk (w := w) (P := l.prog) (base := base) (tb := tbOf [(g2, P2)]) (ok__law_spoilt_lines F21 B C20 C19) (PySem.W.mg_of X G a21) k21 (F21.binds (ps := ["lines", "k", "letters", "draws"]) fun _ _ _ _ _ _ us hl => match us, hl with | [_, _, _, _], _ => rfl)
  have F22 := fun_mk (st := st__law_is_told) l22 c22 k22
  have C22 := callOk (w := w) (P := l.prog) (base := base) (tb := tbOf [(g2, P2)]) (ok__law_is_told F22 B C11 C3) (PySem.W.mg_of X G a22) k22 (F22.binds (ps := ["runs", "k", "lines", "run"]) fun _ _ _ _ _ _ us hl => match us, hl with | [_, _, _, _], _ => rfl)
  have F23 := fun_mk (st := st_law) l23 c23 k23
  exact ok_law F23 B C4 C5 C7 C22 C18 C16 C21 C9
end Mir
open PySem PySem.W PyProof.Rows in
set_option maxRecDepth 100000 in
set_option maxHeartbeats 0 in
theorem PySem.Challenge.cw_fromruns_k56_judged_derivations_holds : PySem.Challenge.rw_fromruns_k56_judged_derivations.Holds := by
  w_on; o_law; k_head; (case hw => w_witness2)
  k_fill
  refine Mir.walkG (l := PySem.Challenge.rw_fromruns_k56_judged_derivations) (k := 5) (m := Mir.m_law) rfl rfl ⟨rfl, by decide, by decide⟩ (fun w h Y => PySem.W.kIn_of Y) Mir.plain_law ?F
  case F =>
    intro w mg fa h KX G hmg tabs
    refine' Mir.all_mk KX G hmg ?a1 ?l1 ?c1 ?k1 ?a2 ?l2 ?c2 ?k2 ?a3 ?l3 ?c3 ?k3 ?a4 ?l4 ?c4 ?k4 ?a5 ?l5 ?c5 ?k5 ?a6 ?l6 ?c6 ?k6 ?a7 ?l7 ?c7 ?k7 ?a8 ?l8 ?c8 ?k8 ?a9 ?l9 ?c9 ?k9 ?a10 ?l10 ?c10 ?k10 ?a11 ?l11 ?c11 ?k11 ?a12 ?l12 ?c12 ?k12 ?a13 ?l13 ?c13 ?k13 ?a14 ?l14 ?c14 ?k14 ?a15 ?l15 ?c15 ?k15 ?a16 ?l16 ?c16 ?k16 ?a17 ?l17 ?c17 ?k17 ?a18 ?l18 ?c18 ?k18 ?a19 ?l19 ?c19 ?k19 ?a20 ?l20 ?c20 ?k20 ?a21 ?l21 ?c21 ?k21 ?a22 ?l22 ?c22 ?k22 ?a23 ?l23 ?c23 ?k23 ?z1 ?z2 ?z3 ?z4 ?z5 ?z6 ?z7 ?z8 ?z9 ?z10 ?z11 ?z12 ?z13 ?z14 (fun x c P hx e => tabs x c P ?tt e) ?r2 ?p2 ?q2 ?u2
    (case tt => rcases hx with rfl <;> decide +kernel)
    (case a1 => k_is)
    (case l1 => k_is)
    (case c1 => k_is)
    (case k1 => k_is)
    (case a2 => k_is)
    (case l2 => k_is)
    (case c2 => k_is)
    (case k2 => k_is)
    (case a3 => k_is)
    (case l3 => k_is)
    (case c3 => k_is)
    (case k3 => k_is)
    (case a4 => k_is)
    (case l4 => k_is)
    (case c4 => k_is)
    (case k4 => k_is)
    (case a5 => k_is)
    (case l5 => k_is)
    (case c5 => k_is)
    (case k5 => k_is)
    (case a6 => k_is)
    (case l6 => k_is)
    (case c6 => k_is)
    (case k6 => k_is)
    (case a7 => k_is)
    (case l7 => k_is)
    (case c7 => k_is)
    (case k7 => k_is)
    (case a8 => k_is)
    (case l8 => k_is)
    (case c8 => k_is)
    (case k8 => k_is)
    (case a9 => k_is)
    (case l9 => k_is)
    (case c9 => k_is)
    (case k9 => k_is)
    (case a10 => k_is)
    (case l10 => k_is)
    (case c10 => k_is)
    (case k10 => k_is)
    (case a11 => k_is)
    (case l11 => k_is)
    (case c11 => k_is)
    (case k11 => k_is)
    (case a12 => k_is)
    (case l12 => k_is)
    (case c12 => k_is)
    (case k12 => k_is)
    (case a13 => k_is)
    (case l13 => k_is)
    (case c13 => k_is)
    (case k13 => k_is)
    (case a14 => k_is)
    (case l14 => k_is)
    (case c14 => k_is)
    (case k14 => k_is)
    (case a15 => k_is)
    (case l15 => k_is)
    (case c15 => k_is)
    (case k15 => k_is)
    (case a16 => k_is)
    (case l16 => k_is)
    (case c16 => k_is)
    (case k16 => k_is)
    (case a17 => k_is)
    (case l17 => k_is)
    (case c17 => k_is)
    (case k17 => k_is)
    (case a18 => k_is)
    (case l18 => k_is)
    (case c18 => k_is)
    (case k18 => k_is)
    (case a19 => k_is)
    (case l19 => k_is)
    (case c19 => k_is)
    (case k19 => k_is)
    (case a20 => k_is)
    (case l20 => k_is)
    (case c20 => k_is)
    (case k20 => k_is)
    (case a21 => k_is)
    (case l21 => k_is)
    (case c21 => k_is)
    (case k21 => k_is)
    (case a22 => k_is)
    (case l22 => k_is)
    (case c22 => k_is)
    (case k22 => k_is)
    (case a23 => k_is)
    (case l23 => k_is)
    (case c23 => k_is)
    (case k23 => k_is)
    (case z1 => k_is)
    (case z2 => k_is)
    (case z3 => k_is)
    (case z4 => k_is)
    (case z5 => k_is)
    (case z6 => k_is)
    (case z7 => k_is)
    (case z8 => k_is)
    (case z9 => k_is)
    (case z10 => k_is)
    (case z11 => k_is)
    (case z12 => k_is)
    (case z13 => k_is)
    (case z14 => k_is)
    (case r2 => rfl)
    (case p2 => k_is)
    (case q2 => rfl)
    (case u2 => rfl)
