import PyProof.Rows.All
import Wide.All
import OpenK.AllK
import Wide.FinOn
import HandS.ForMost
import HandS.TupAny
import HandS.Deep
import HandS.IsInst
import HandS.Conv
import HandS.Style
import HandS.TupLe
import HandS.TupMul
import HandS.Text
import HandS.SortInts
import KE.GoesEnum
import HandS.Zip
import KE.SortData
import HandS.TupSets
import KE.KStateDown
import HandS.Base
import HandS.Call
import HandS.Ends
import HandS.More
import HandS.Words
import HandS.WordsExc
import HandS.Defaults
import HandS.Head0
import HandS.Head1
import HandS.Head2
import HandS.HeadEnd
import HandS.HeadHook1
import HandS.HeadHook2
import PySem.Challenge.RW_nolieholds_k89_whole_never_newer_than_th
set_option autoImplicit false
set_option Elab.async false
set_option linter.all false
set_option maxRecDepth 100000
set_option maxHeartbeats 2000000
/-! Dl1: a layer of data over HandS: what a def's names hold, as data without addresses. -/
namespace Dl
open PySem L2

abbrev D := PyData
def Ex (H H' : Hp) : Prop := ∀ a o, H a = some o → H' a = some o
theorem Ex.refl (H : Hp) : Ex H H := fun _ _ h => h
theorem Ex.trans {H H1 H2 : Hp} (a : Ex H H1) (b : Ex H1 H2) : Ex H H2 := fun x o h => b x o (a x o h)
theorem Ex.new {H : Hp} {p : Addr} {o : HO} (h : H p = none) : Ex H (upd H p o) := fun a u e => by
  rw [upd_ne (ne_of_none e h)]; exact e
theorem ex_mut {F H : Hp} {p : Addr} {o : HO} (e : Ex F H) (h : F p = none) : Ex F (upd H p o) := fun a u ha => by
  rw [upd_ne (ne_of_none ha h)]; exact e a u ha
theorem ex_upd {F H : Hp} {p : Addr} {o : HO} (e : Ex F H) (h : H p = some o) : Ex (upd F p o) H := fun a u ha => by
  by_cases q : a = p
  · subst q; rw [upd_same] at ha; rw [h]; exact ha
  · rw [upd_ne q] at ha; exact e a u ha
theorem ex_rd {H H' : Hp} {a : Addr} {u : HO} (e : Ex H H') (h : Rd H a u) : Rd H' a u := by
  rcases h with h | ⟨o, h⟩
  · exact Or.inl (e a _ h)
  · exact Or.inr ⟨o, e a _ h⟩
theorem ex_t {K : PySem.W.Frag} {H H' : Hp} {a : Addr} {xs : List V} (e : Ex H H') (h : SqT K H a xs) : SqT K H' a xs := by
  rcases h with h | h
  · exact Or.inl (ex_rd e h)
  · exact Or.inr h

/-- a key as data -/
def keyD : Key → D
  | .inl i => .int i
  | .inr x => .str x
def tkeyD (ks : List Key) : D := .tuple (ks.map keyD)

/-! ### what a value stands for -/
mutual
inductive Rp (K : PySem.W.Frag) (H : Hp) : V → D → Prop
  | non : Rp K H .non .none
  | bl (b : Bool) : Rp K H (.bl b) (.bool b)
  | int (i : Int) : Rp K H (.int i) (.int i)
  | str (x : Str) : Rp K H (.str x) (.str x)
  | lst {a : Addr} {xs : List V} {ds : List D} : H a = some (.lst xs) → RpAll K H xs ds → Rp K H (.ref a) (.list ds)
  | tup {a : Addr} {xs : List V} {ds : List D} : SqT K H a xs → RpAll K H xs ds → Rp K H (.ref a) (.tuple ds)
  | dK {a : Addr} {kvs : List (Key × V)} {kds : List (D × D)} : H a = some (.dK kvs) → kds.map (·.1) = kvs.map (fun p => keyD p.1) → RpAll K H (kvs.map (·.2)) (kds.map (·.2)) → Rp K H (.ref a) (.dict kds)
  | dT {a : Addr} {kvs : List (List Key × V)} {kds : List (D × D)} : H a = some (.dT kvs) → kds.map (·.1) = kvs.map (fun p => tkeyD p.1) → RpAll K H (kvs.map (·.2)) (kds.map (·.2)) → Rp K H (.ref a) (.dict kds)
inductive RpAll (K : PySem.W.Frag) (H : Hp) : List V → List D → Prop
  | nil : RpAll K H [] []
  | cons {v : V} {vs : List V} {d : D} {ds : List D} : Rp K H v d → RpAll K H vs ds → RpAll K H (v :: vs) (d :: ds)
end
section
variable {K : PySem.W.Frag} {F H : Hp}
mutual
theorem Rp.mono (e : Ex F H) : ∀ {v d}, Rp K F v d → Rp K H v d
  | _, _, .non => .non
  | _, _, .bl b => .bl b
  | _, _, .int i => .int i
  | _, _, .str x => .str x
  | _, _, .lst h t => .lst (e _ _ h) (RpAll.mono e t)
  | _, _, .tup h t => .tup (ex_t e h) (RpAll.mono e t)
  | _, _, .dK h k t => .dK (e _ _ h) k (RpAll.mono e t)
  | _, _, .dT h k t => .dT (e _ _ h) k (RpAll.mono e t)
theorem RpAll.mono (e : Ex F H) : ∀ {vs ds}, RpAll K F vs ds → RpAll K H vs ds
  | _, _, .nil => .nil
  | _, _, .cons h t => .cons (Rp.mono e h) (RpAll.mono e t)
end
theorem RpAll.len : ∀ {vs ds}, RpAll K F vs ds → vs.length = ds.length
  | _, _, .nil => rfl
  | _, _, .cons _ t => by rw [List.length_cons, List.length_cons, RpAll.len t]
theorem RpAll.get : ∀ {vs ds} {i : Nat} {d : D}, RpAll K F vs ds → ds[i]? = some d → ∃ v, vs[i]? = some v ∧ Rp K F v d
  | _, _, _, _, .nil, e => by simp at e
  | _, _, 0, _, .cons h _, e => by simp at e; subst e; exact ⟨_, rfl, h⟩
  | _, _, i + 1, d, .cons _ t, e => by
    obtain ⟨v, h1, h2⟩ := RpAll.get (i := i) (d := d) t (by simpa using e)
    exact ⟨v, by simpa using h1, h2⟩
theorem RpAll.getV : ∀ {vs ds} {i : Nat} {v : V}, RpAll K F vs ds → vs[i]? = some v → ∃ d, ds[i]? = some d ∧ Rp K F v d
  | _, _, _, _, .nil, e => by simp at e
  | _, _, 0, _, .cons h _, e => by simp at e; subst e; exact ⟨_, rfl, h⟩
  | _, _, i + 1, v, .cons _ t, e => by
    obtain ⟨d, h1, h2⟩ := RpAll.getV (i := i) (v := v) t (by simpa using e)
    exact ⟨d, by simpa using h1, h2⟩
theorem RpAll.app : ∀ {vs ds ws es}, RpAll K F vs ds → RpAll K F ws es → RpAll K F (vs ++ ws) (ds ++ es)
  | _, _, _, _, .nil, h => h
  | _, _, _, _, .cons h t, h2 => .cons h (RpAll.app t h2)
theorem RpAll.take : ∀ {vs ds} (n : Nat), RpAll K F vs ds → RpAll K F (vs.take n) (ds.take n)
  | _, _, 0, _ => .nil
  | _, _, _ + 1, .nil => .nil
  | _, _, n + 1, .cons h t => .cons h (RpAll.take n t)
theorem RpAll.drop : ∀ {vs ds} (n : Nat), RpAll K F vs ds → RpAll K F (vs.drop n) (ds.drop n)
  | _, _, 0, h => h
  | _, _, _ + 1, .nil => .nil
  | _, _, n + 1, .cons _ t => RpAll.drop n t
theorem RpAll.rev : ∀ {vs ds}, RpAll K F vs ds → RpAll K F vs.reverse ds.reverse
  | _, _, .nil => .nil
  | _, _, .cons h t => by rw [List.reverse_cons, List.reverse_cons]; exact RpAll.app (RpAll.rev t) (.cons h .nil)
theorem RpAll.set : ∀ {vs ds} {v : V} {d : D} (i : Nat), Rp K F v d → RpAll K F vs ds → RpAll K F (vs.set i v) (ds.set i d)
  | _, _, _, _, _, _, .nil => .nil
  | _, _, _, _, 0, h, .cons _ t => .cons h t
  | _, _, _, _, i + 1, h, .cons h1 t => .cons h1 (RpAll.set i h t)
theorem RpAll.erase : ∀ {vs ds} (i : Nat), RpAll K F vs ds → RpAll K F (vs.eraseIdx i) (ds.eraseIdx i)
  | _, _, _, .nil => .nil
  | _, _, 0, .cons _ t => t
  | _, _, i + 1, .cons h1 t => .cons h1 (RpAll.erase i t)
theorem RpAll.dropLast : ∀ {vs ds}, RpAll K F vs ds → RpAll K F vs.dropLast ds.dropLast := fun {vs ds} h => by
  rw [List.dropLast_eq_take, List.dropLast_eq_take, h.len]; exact h.take _
theorem RpAll.ints : ∀ {vs} {ns : List Int}, RpAll K F vs (ns.map PyData.int) → vs = ns.map V.int
  | _, [], h => by cases h; rfl
  | _, n :: ns, h => by
    rw [List.map_cons] at h
    cases h with
    | cons h1 t => cases h1; rw [RpAll.ints t, List.map_cons]
theorem RpAll.bls : ∀ {vs} {bs : List Bool}, RpAll K F vs (bs.map PyData.bool) → vs = bs.map V.bl
  | _, [], h => by cases h; rfl
  | _, n :: ns, h => by
    rw [List.map_cons] at h
    cases h with
    | cons h1 t => cases h1; rw [RpAll.bls t, List.map_cons]
theorem RpAll.strs : ∀ {vs} {bs : List Str}, RpAll K F vs (bs.map PyData.str) → vs = bs.map V.str
  | _, [], h => by cases h; rfl
  | _, n :: ns, h => by
    rw [List.map_cons] at h
    cases h with
    | cons h1 t => cases h1; rw [RpAll.strs t, List.map_cons]
/-! as HandS tells it (no dict within) -/
mutual
theorem Rp.dp (hs : ∀ a xs, F a = some (.lst xs) → SqL K H a xs) (ht : ∀ a xs, SqT K F a xs → SqT K H a xs) : ∀ {v d}, Rp K F v d → d.canLay0 = true → Dp K H v d
  | _, _, .non, _ => .non
  | _, _, .bl b, _ => .bl b
  | _, _, .int i, _ => .int i
  | _, _, .str x, _ => .str x
  | _, _, .lst h t, c => .lst (hs _ _ h) (RpAll.dp hs ht t (by simpa [PyData.canLay0] using c))
  | _, _, .tup h t, c => .tup (ht _ _ h) (RpAll.dp hs ht t (by simpa [PyData.canLay0] using c))
  | _, _, .dK h k t, c => by simp [PyData.canLay0] at c
  | _, _, .dT h k t, c => by simp [PyData.canLay0] at c
theorem RpAll.dp (hs : ∀ a xs, F a = some (.lst xs) → SqL K H a xs) (ht : ∀ a xs, SqT K F a xs → SqT K H a xs) : ∀ {vs ds}, RpAll K F vs ds → PyData.canLayAll0 ds = true → DpAll K H vs ds
  | _, _, .nil, _ => .nil
  | _, _, .cons h t, c => by
    simp only [PyData.canLayAll0, Bool.and_eq_true] at c
    exact .cons (Rp.dp hs ht h c.1) (RpAll.dp hs ht t c.2)
end
/-! no list, no dict within: what it is stands in the tuples alone -/
mutual
def pureD : D → Bool
  | .none | .bool _ | .int _ | .str _ => true
  | .tuple xs => pureAll xs
  | .list _ => false
  | .dict _ => false
def pureAll : List D → Bool
  | [] => true
  | x :: xs => pureD x && pureAll xs
end
mutual
theorem Rp.pureMono (ht : ∀ a xs, SqT K F a xs → SqT K H a xs) : ∀ {v d}, Rp K F v d → pureD d = true → Rp K H v d
  | _, _, .non, _ => .non
  | _, _, .bl b, _ => .bl b
  | _, _, .int i, _ => .int i
  | _, _, .str x, _ => .str x
  | _, _, .lst h t, c => by simp [pureD] at c
  | _, _, .tup h t, c => .tup (ht _ _ h) (RpAll.pureMono ht t (by simpa [pureD] using c))
  | _, _, .dK h k t, c => by simp [pureD] at c
  | _, _, .dT h k t, c => by simp [pureD] at c
theorem RpAll.pureMono (ht : ∀ a xs, SqT K F a xs → SqT K H a xs) : ∀ {vs ds}, RpAll K F vs ds → pureAll ds = true → RpAll K H vs ds
  | _, _, .nil, _ => .nil
  | _, _, .cons h t, c => by
    simp only [pureAll, Bool.and_eq_true] at c
    exact .cons (Rp.pureMono ht h c.1) (RpAll.pureMono ht t c.2)
end
end

/-! ### things that change -/
inductive Mu : Type where
  | lst (ds : List D)
  | dK (kds : List (Key × D))
  | dT (kds : List (List Key × D))
def MuIs (K : PySem.W.Frag) (F H : Hp) (a : Addr) : Mu → Prop
  | .lst ds => ∃ xs, H a = some (.lst xs) ∧ RpAll K F xs ds
  | .dK kds => ∃ kvs, H a = some (.dK kvs) ∧ kds.map (·.1) = kvs.map (·.1) ∧ RpAll K F (kvs.map (·.2)) (kds.map (·.2))
  | .dT kds => ∃ kvs, H a = some (.dT kvs) ∧ kds.map (·.1) = kvs.map (·.1) ∧ RpAll K F (kvs.map (·.2)) (kds.map (·.2))
theorem MuIs.grow {K : PySem.W.Frag} {F H F' H' : Hp} {a : Addr} (e : Ex F F') (h : H' a = H a) : ∀ {m : Mu}, MuIs K F H a m → MuIs K F' H' a m
  | .lst _, ⟨xs, h1, h2⟩ => ⟨xs, by rw [h]; exact h1, h2.mono e⟩
  | .dK _, ⟨xs, h1, k, h2⟩ => ⟨xs, by rw [h]; exact h1, k, h2.mono e⟩
  | .dT _, ⟨xs, h1, k, h2⟩ => ⟨xs, by rw [h]; exact h1, k, h2.mono e⟩
theorem MuIs.there {K : PySem.W.Frag} {F H : Hp} {a : Addr} : ∀ {m : Mu}, MuIs K F H a m → H a ≠ none
  | .lst _, ⟨_, h1, _⟩ => by rw [h1]; exact fun z => nomatch z
  | .dK _, ⟨_, h1, _⟩ => by rw [h1]; exact fun z => nomatch z
  | .dT _, ⟨_, h1, _⟩ => by rw [h1]; exact fun z => nomatch z
theorem MuIs.mono {K : PySem.W.Frag} {F H H' : Hp} {a : Addr} {m : Mu} (e : Ex H H') (h : MuIs K F H a m) : MuIs K F H' a m := by
  refine h.grow (Ex.refl F) ?_
  cases q : H a with
  | none => exact absurd q h.there
  | some o => exact e a o q

/-- what a name holds: nothing, data, a thing of its own that changes, a caller's thing that changes (by its number), the script -/
inductive Sl : Type where
  | un
  | val (d : D)
  | mu (m : Mu)
  | ext (k : Nat)
  | scr (ns : List Int)
structure En where
  sl : List Sl
  xt : List Mu

structure Sat (K : PySem.W.Frag) (G : Hp) (ea : Nat → Addr) (F : Hp) (ad : Nat → Addr) (env : En) (σ : St) (H : Hp) : Prop where
  fh : Ex F H
  gh : Ex G H
  len : σ.length = env.sl.length
  val : ∀ (i : Nat) (d : D), env.sl[i]? = some (.val d) → ∃ v, σ[i]? = some (some v) ∧ Rp K F v d
  mus : ∀ (i : Nat) (m : Mu), env.sl[i]? = some (.mu m) → σ[i]? = some (some (.ref (ad i))) ∧ MuIs K F H (ad i) m ∧ F (ad i) = none ∧ G (ad i) = none
  ext : ∀ (i k : Nat), env.sl[i]? = some (.ext k) → σ[i]? = some (some (.ref (ea k)))
  scr : ∀ (i : Nat) (ns : List Int), env.sl[i]? = some (.scr ns) → ∃ a, σ[i]? = some (some (.ref a)) ∧ SqL K F a (ns.map V.int)
  xts : ∀ (k : Nat) (m : Mu), env.xt[k]? = some m → MuIs K F H (ea k) m ∧ F (ea k) = none ∧ G (ea k) = none
  dmm : ∀ (i j : Nat) (mi mj : Mu), env.sl[i]? = some (.mu mi) → env.sl[j]? = some (.mu mj) → i ≠ j → ad i ≠ ad j
  dmx : ∀ (i : Nat) (mi : Mu) (k : Nat) (mk : Mu), env.sl[i]? = some (.mu mi) → env.xt[k]? = some mk → ad i ≠ ea k
  dxx : ∀ (k l : Nat) (mk ml : Mu), env.xt[k]? = some mk → env.xt[l]? = some ml → k ≠ l → ea k ≠ ea l

/-- how the heap and what stands still grow -/
structure Grow (F H F' H' : Hp) : Prop where
  ex : Ex F F'
  fr : ∀ a, H a ≠ none → F' a = F a
  dom : ∀ a, H a ≠ none → H' a ≠ none
theorem Grow.refl (F H : Hp) : Grow F H F H := ⟨Ex.refl F, fun _ _ => rfl, fun _ h => h⟩
theorem Grow.trans {F H F1 H1 F2 H2 : Hp} (a : Grow F H F1 H1) (b : Grow F1 H1 F2 H2) : Grow F H F2 H2 :=
  ⟨a.ex.trans b.ex, fun x h => (b.fr x (a.dom x h)).trans (a.fr x h), fun x h => b.dom x (a.dom x h)⟩
theorem dom_ex {H H' : Hp} (e : Ex H H') : ∀ a, H a ≠ none → H' a ≠ none := fun a h => by
  cases q : H a with
  | none => exact absurd q h
  | some o => rw [e a o q]; exact fun z => nomatch z
theorem same_ex {H H' : Hp} (e : Ex H H') {a : Addr} (h : H a ≠ none) : H' a = H a := by
  cases q : H a with
  | none => exact absurd q h
  | some o => exact e a o q
/-- a new object that stands still -/
theorem Grow.new {F H : Hp} {p : Addr} {o : HO} (fh : Ex F H) (h : H p = none) : Grow F H (upd F p o) (upd H p o) := by
  have hf : F p = none := by
    cases q : F p with
    | none => rfl
    | some u => have z := fh p u q; rw [h] at z; cases z
  refine ⟨Ex.new hf, fun a ha => ?_, dom_ex (Ex.new h)⟩
  have : a ≠ p := fun z => ha (by rw [z]; exact h)
  rw [upd_ne this]
/-- a new object that may change -/
theorem Grow.newM {F H : Hp} {p : Addr} {o : HO} (h : H p = none) : Grow F H F (upd H p o) := ⟨Ex.refl F, fun _ _ => rfl, dom_ex (Ex.new h)⟩

section
variable {K : PySem.W.Frag} {G : Hp} {ea : Nat → Addr} {F F' : Hp} {ad : Nat → Addr} {env : En} {σ : St} {H H' : Hp}
theorem fnone {p : Addr} (fh : Ex F H) (h : H p = none) : F p = none := by
  cases q : F p with
  | none => rfl
  | some u => have z := fh p u q; rw [h] at z; cases z
/-- nothing that is known changes -/
theorem Sat.ext' (S : Sat K G ea F ad env σ H) (e : Ex H H') (g : Ex F F') (fr : ∀ a, H a ≠ none → F' a = F a) (fh : Ex F' H') : Sat K G ea F' ad env σ H' where
  fh := fh
  gh := S.gh.trans e
  len := S.len
  val := fun i d h => by obtain ⟨v, h1, h2⟩ := S.val i d h; exact ⟨v, h1, h2.mono g⟩
  mus := fun i m h => by
    obtain ⟨h1, h2, h3, h4⟩ := S.mus i m h
    exact ⟨h1, h2.grow g (same_ex e h2.there), by rw [fr _ h2.there]; exact h3, h4⟩
  ext := S.ext
  scr := fun i ns h => by
    obtain ⟨a, h1, h2⟩ := S.scr i ns h
    refine ⟨a, h1, ?_⟩
    rcases h2 with h2 | h2
    · exact Or.inl (ex_rd g h2)
    · exact Or.inr h2
  xts := fun k m h => by
    obtain ⟨h2, h3, h4⟩ := S.xts k m h
    exact ⟨h2.grow g (same_ex e h2.there), by rw [fr _ h2.there]; exact h3, h4⟩
  dmm := S.dmm
  dmx := S.dmx
  dxx := S.dxx
theorem Sat.new (S : Sat K G ea F ad env σ H) {p : Addr} {o : HO} (h : H p = none) : Sat K G ea (upd F p o) ad env σ (upd H p o) := by
  have g := Grow.new (o := o) S.fh h
  refine S.ext' (Ex.new h) g.ex g.fr ?_
  exact ex_upd (ex_mut S.fh (fnone S.fh h)) upd_same
theorem Sat.newM (S : Sat K G ea F ad env σ H) {p : Addr} {o : HO} (h : H p = none) : Sat K G ea F ad env σ (upd H p o) :=
  S.ext' (Ex.new h) (Ex.refl F) (fun _ _ => rfl) (S.fh.trans (Ex.new h))
end

/-- what stands still grows by the thing at p -/
theorem Sat.freeze {K : PySem.W.Frag} {G : Hp} {ea : Nat → Addr} {F F' : Hp} {ad : Nat → Addr} {env : En} {σ : St} {H : Hp} {p : Addr} (S : Sat K G ea F ad env σ H) (g : Ex F F') (ne : ∀ a, a ≠ p → F' a = F a) (fh : Ex F' H)
    (am : ∀ (i : Nat) (mi : Mu), env.sl[i]? = some (.mu mi) → ad i ≠ p) (ax : ∀ (k : Nat) (mk : Mu), env.xt[k]? = some mk → ea k ≠ p) : Sat K G ea F' ad env σ H where
  fh := fh
  gh := S.gh
  len := S.len
  val := fun i d h => by obtain ⟨v, h1, h2⟩ := S.val i d h; exact ⟨v, h1, h2.mono g⟩
  mus := fun i m h => by
    obtain ⟨h1, h2, h3, h4⟩ := S.mus i m h
    exact ⟨h1, h2.grow g rfl, by rw [ne _ (am i m h)]; exact h3, h4⟩
  ext := S.ext
  scr := fun i ns h => by
    obtain ⟨a, h1, h2⟩ := S.scr i ns h
    refine ⟨a, h1, ?_⟩
    rcases h2 with h2 | h2
    · exact Or.inl (ex_rd g h2)
    · exact Or.inr h2
  xts := fun k m h => by
    obtain ⟨h2, h3, h4⟩ := S.xts k m h
    exact ⟨h2.grow g rfl, by rw [ne _ (ax k m h)]; exact h3, h4⟩
  dmm := S.dmm
  dmx := S.dmx
  dxx := S.dxx

/-! ### results -/
inductive Rv where
  | val (d : D)
  | slot (i : Nat)
  | ext (k : Nat)
def RIs (K : PySem.W.Frag) (F : Hp) (σ : St) (ea : Nat → Addr) : Rv → V → Prop
  | .val d, v => Rp K F v d
  | .slot i, v => σ[i]? = some (some v)
  | .ext k, v => v = .ref (ea k)
theorem RIs.mono {K : PySem.W.Frag} {F F' : Hp} {σ : St} {ea : Nat → Addr} (e : Ex F F') : ∀ {R : Rv} {v : V}, RIs K F σ ea R v → RIs K F' σ ea R v
  | .val _, _, h => Rp.mono e h
  | .slot _, _, h => h
  | .ext _, _, h => h
def muD : Mu → Option D
  | .lst ds => some (.list ds)
  | _ => none
def slMu : Sl → Option Mu
  | .mu m => some m
  | _ => none
/-- what changes, at a result -/
def Rv.m (env : En) : Rv → Option Mu
  | .val _ => none
  | .slot i => (env.sl[i]?).bind slMu
  | .ext k => env.xt[k]?
/-- what a result stands for now, as data -/
def Rv.d (env : En) : Rv → Option D
  | .val d => some d
  | .slot i => ((env.sl[i]?).bind slMu).bind muD
  | .ext k => (env.xt[k]?).bind muD
/-- a value stands for data now: a list's items stand still -/
def RpN (K : PySem.W.Frag) (F H : Hp) (v : V) : D → Prop
  | .list ds => ∃ a xs, v = .ref a ∧ H a = some (.lst xs) ∧ RpAll K F xs ds
  | d => Rp K F v d
section
variable {K : PySem.W.Frag} {G : Hp} {ea : Nat → Addr} {F F' : Hp} {ad : Nat → Addr} {env : En} {σ : St} {H H' : Hp}
theorem Rp.now (fh : Ex F H) : ∀ {v : V} {d : D}, Rp K F v d → RpN K F H v d
  | _, _, .non => Rp.non
  | _, _, .bl b => Rp.bl b
  | _, _, .int i => Rp.int i
  | _, _, .str x => Rp.str x
  | _, _, .lst h t => ⟨_, _, rfl, fh _ _ h, t⟩
  | _, _, .tup h t => Rp.tup h t
  | _, _, .dK h k t => Rp.dK h k t
  | _, _, .dT h k t => Rp.dT h k t
theorem mu_now {a : Addr} {m : Mu} {d : D} (h : MuIs K F H a m) (e : muD m = some d) : RpN K F H (.ref a) d := by
  cases m with
  | lst ds => cases e; obtain ⟨xs, h1, h2⟩ := h; exact ⟨a, xs, rfl, h1, h2⟩
  | dK _ => cases e
  | dT _ => cases e
theorem Sat.nowM (S : Sat K G ea F ad env σ H) {R : Rv} {v : V} {m : Mu} (r : RIs K F σ ea R v) (e : R.m env = some m) : ∃ a, v = .ref a ∧ MuIs K F H a m ∧ F a = none ∧ G a = none := by
  cases R with
  | val d' => cases e
  | slot i =>
    have e' : (env.sl[i]?).bind slMu = some m := e
    cases q : env.sl[i]? with
    | none => rw [q] at e'; cases e'
    | some s =>
      rw [q] at e'
      cases s with
      | mu m' =>
        cases e'
        obtain ⟨h1, h2, h3, h4⟩ := S.mus i _ q
        have r' : σ[i]? = some (some v) := r
        rw [h1] at r'
        cases r'
        exact ⟨_, rfl, h2, h3, h4⟩
      | _ => cases e'
  | ext k =>
    have e' : env.xt[k]? = some m := e
    have r' : v = .ref (ea k) := r
    exact ⟨_, r', S.xts k m e'⟩
theorem Sat.now (S : Sat K G ea F ad env σ H) {R : Rv} {v : V} {d : D} (r : RIs K F σ ea R v) (e : R.d env = some d) : RpN K F H v d := by
  have key : (R.m env).bind muD = some d → RpN K F H v d := fun e => by
    cases q : R.m env with
    | none => rw [q] at e; cases e
    | some m =>
      rw [q] at e
      obtain ⟨a, rfl, h2, _⟩ := S.nowM r q
      exact mu_now h2 e
  cases R with
  | val d' => cases e; exact Rp.now S.fh r
  | slot i => exact key e
  | ext k => exact key e
theorem RpN.dp (fh : Ex F H) : ∀ {v : V} {d : D}, RpN K F H v d → d.canLay0 = true → Dp K H v d := fun {v d} h c => by
  have hs : ∀ a xs, F a = some (.lst xs) → SqL K H a xs := fun a xs q => Or.inl (Or.inl (fh a _ q))
  have ht : ∀ a xs, SqT K F a xs → SqT K H a xs := fun a xs q => ex_t fh q
  cases d with
  | list ds =>
    obtain ⟨a, xs, rfl, h1, h2⟩ := h
    exact .lst (Or.inl (Or.inl h1)) (RpAll.dp hs ht h2 (by simpa [PyData.canLay0] using c))
  | dict _ => simp [PyData.canLay0] at c
  | _ => exact Rp.dp hs ht h c
end

/-! ### readings over data -/
abbrev RE := En → (Rv → En → Prop) → Prop
abbrev RN := En → (Mu → En → Prop) → Prop
abbrev RT := En → (Bool → En → Prop) → Prop
abbrev RA := En → (List Rv → En → Prop) → Prop
inductive RsAll (K : PySem.W.Frag) (F : Hp) (σ : St) (ea : Nat → Addr) : List Rv → List V → Prop
  | nil : RsAll K F σ ea [] []
  | cons {R Rs v vs} : RIs K F σ ea R v → RsAll K F σ ea Rs vs → RsAll K F σ ea (R :: Rs) (v :: vs)
theorem RsAll.mono {K : PySem.W.Frag} {F F' : Hp} {σ : St} {ea : Nat → Addr} (e : Ex F F') : ∀ {Rs vs}, RsAll K F σ ea Rs vs → RsAll K F' σ ea Rs vs
  | _, _, .nil => .nil
  | _, _, .cons h t => .cons (h.mono e) (RsAll.mono e t)
/-- a new thing at p, that nothing else knows -/
structure Fresh (K : PySem.W.Frag) (G : Hp) (ea : Nat → Addr) (F : Hp) (ad : Nat → Addr) (env : En) (H0 H : Hp) (p : Addr) (m : Mu) : Prop where
  is : MuIs K F H p m
  f : F p = none
  g : G p = none
  h0 : H0 p = none
  am : ∀ (i : Nat) (mi : Mu), env.sl[i]? = some (.mu mi) → ad i ≠ p
  ax : ∀ (k : Nat) (mk : Mu), env.xt[k]? = some mk → ea k ≠ p
def liftE (K : PySem.W.Frag) (r : RE) : TE := fun σ H Q => ∃ G ea F ad env, Sat K G ea F ad env σ H ∧
  r env fun R env' => ∀ v F' ad' H', Grow F H F' H' → Sat K G ea F' ad' env' σ H' → RIs K F' σ ea R v → Q v H'
def liftN (K : PySem.W.Frag) (r : RN) : TE := fun σ H Q => ∃ G ea F ad env, Sat K G ea F ad env σ H ∧
  r env fun m env' => ∀ p F' ad' H', Grow F H F' H' → Sat K G ea F' ad' env' σ H' → Fresh K G ea F' ad' env' H H' p m → Q (.ref p) H'
def liftT (K : PySem.W.Frag) (r : RT) : TT := fun σ H Q => ∃ G ea F ad env, Sat K G ea F ad env σ H ∧
  r env fun b env' => ∀ F' ad' H', Grow F H F' H' → Sat K G ea F' ad' env' σ H' → Q b H'
def liftA (K : PySem.W.Frag) (r : RA) : TA := fun σ H Q => ∃ G ea F ad env, Sat K G ea F ad env σ H ∧
  r env fun Rs env' => ∀ vs F' ad' H', Grow F H F' H' → Sat K G ea F' ad' env' σ H' → RsAll K F' σ ea Rs vs → Q vs H'
structure DE (X : Cx) (e : Expr) (r : RE) : Prop where
  run : PE X e (liftE X.K r)
  mono : ∀ {env Q Q'}, (∀ R env', Q R env' → Q' R env') → r env Q → r env Q'
structure DN (X : Cx) (e : Expr) (r : RN) : Prop where
  run : PE X e (liftN X.K r)
  mono : ∀ {env Q Q'}, (∀ m env', Q m env' → Q' m env') → r env Q → r env Q'
structure DT (X : Cx) (e : Expr) (r : RT) : Prop where
  run : PT X e (liftT X.K r)
  mono : ∀ {env Q Q'}, (∀ b env', Q b env' → Q' b env') → r env Q → r env Q'
structure DA (X : Cx) (es : List Expr) (r : RA) : Prop where
  run : PA X es (liftA X.K r)
  mono : ∀ {env Q Q'}, (∀ Rs env', Q Rs env' → Q' Rs env') → r env Q → r env Q'
theorem PE.imp {X : Cx} {e : Expr} {t t' : TE} (h : PE X e t) (i : ∀ σ H Q, t' σ H Q → t σ H Q) : PE X e t' := ⟨fun pins s σ H Q I q => h.run pins s σ H Q I (i σ H Q q)⟩
theorem PT.imp {X : Cx} {e : Expr} {t t' : TT} (h : PT X e t) (i : ∀ σ H Q, t' σ H Q → t σ H Q) : PT X e t' := ⟨fun pins s σ H Q I q => h.run pins s σ H Q I (i σ H Q q)⟩
theorem PA.imp {X : Cx} {e : List Expr} {t t' : TA} (h : PA X e t) (i : ∀ σ H Q, t' σ H Q → t σ H Q) : PA X e t' := ⟨fun pos pins s σ H Q I q => h.run pos pins s σ H Q I (i σ H Q q)⟩
theorem PS.imp {X : Cx} {e : Stmt} {t t' : TS} (h : PS X e t) (i : ∀ D σ H, t' D σ H → t D σ H) : PS X e t' := ⟨fun pins s σ H D I q => h.run pins s σ H D I (i D σ H q)⟩
theorem PSs.imp {X : Cx} {e : List Stmt} {t t' : TS} (h : PSs X e t) (i : ∀ D σ H, t' D σ H → t D σ H) : PSs X e t' := ⟨fun pins s σ H D I q => h.run pins s σ H D I (i D σ H q)⟩

section
variable {X : Cx} {a b c e : Expr} {ra rb rc : RE} {pos : Pos}
/-! ### names, constants -/
def dC (d : D) : RE := fun env Q => Q (.val d) env
theorem lift_c {K : PySem.W.Frag} {v : V} {d : D} {σ : St} {H : Hp} {Q : VK} (r : ∀ F, Rp K F v d) (h : liftE K (dC d) σ H Q) : Q v H := by
  obtain ⟨G, ea, F, ad, env, S, q⟩ := h
  exact q v F ad H (Grow.refl _ _) S (r F)
theorem de_int {i j pos} : DE X (.Constant (.int i) j pos) (dC (.int i)) := ⟨PE.imp pe_int fun _ _ _ h => lift_c (fun _ => .int i) h, fun m h => m _ _ h⟩
theorem de_bl {i j pos} : DE X (.Constant (.bool i) j pos) (dC (.bool i)) := ⟨PE.imp pe_bl fun _ _ _ h => lift_c (fun _ => .bl i) h, fun m h => m _ _ h⟩
theorem de_non {j pos} : DE X (.Constant .none j pos) (dC .none) := ⟨PE.imp pe_non fun _ _ _ h => lift_c (fun _ => .non) h, fun m h => m _ _ h⟩
theorem de_str {i j pos} : DE X (.Constant (.str i) j pos) (dC (.str i)) := ⟨PE.imp pe_str fun _ _ _ h => lift_c (fun _ => .str i) h, fun m h => m _ _ h⟩
/-- a module's int -/
theorem de_globI {x : Str} {i : Int} {u : Value} {pos : Pos} (hg : Gl X x) (hm : X.mg x = some u) (r : RelV (.int i) u) (hd : (x == ("__debug__" : Str)) = false := by decide) : DE X (.Name x pos) (dC (.int i)) :=
  ⟨PE.imp (pe_glob hg hm r hd) fun _ _ _ h => lift_c (fun _ => .int i) h, fun m h => m _ _ h⟩
theorem de_globS {x : Str} {i : Str} {u : Value} {pos : Pos} (hg : Gl X x) (hm : X.mg x = some u) (r : RelV (.str i) u) (hd : (x == ("__debug__" : Str)) = false := by decide) : DE X (.Name x pos) (dC (.str i)) :=
  ⟨PE.imp (pe_glob hg hm r hd) fun _ _ _ h => lift_c (fun _ => .str i) h, fun m h => m _ _ h⟩
/-- a name: data, or what stands there by its slot -/
def slotR (i : Nat) : Sl → Option Rv
  | .un => none
  | .val d => some (.val d)
  | .mu _ => some (.slot i)
  | .ext k => some (.ext k)
  | .scr _ => some (.slot i)
def dV (i : Nat) : RE := fun env Q => ∃ R, (env.sl[i]?).bind (slotR i) = some R ∧ Q R env
theorem Sat.slotR {K : PySem.W.Frag} {G : Hp} {ea : Nat → Addr} {F : Hp} {ad : Nat → Addr} {env : En} {σ : St} {H : Hp} (S : Sat K G ea F ad env σ H) {i : Nat} {R : Rv} (h : (env.sl[i]?).bind (slotR i) = some R) :
    ∃ v, σ[i]? = some (some v) ∧ RIs K F σ ea R v := by
  cases q : env.sl[i]? with
  | none => rw [q] at h; cases h
  | some s =>
    rw [q] at h
    cases s with
    | un => cases h
    | val d => cases h; exact S.val i d q
    | mu m => cases h; exact ⟨_, (S.mus i m q).1, (S.mus i m q).1⟩
    | ext k => cases h; exact ⟨_, S.ext i k q, rfl⟩
    | scr ns => cases h; obtain ⟨a, h1, _⟩ := S.scr i ns q; exact ⟨_, h1, h1⟩
theorem de_v (i : Nat) {x : Str} {pos : Pos} (hN : X.N[i]? = some x := by rfl) (hv : Vis X.env.scope x := by first | exact Or.inl rfl | exact Or.inr (Or.inl rfl) | exact Or.inr (Or.inr rfl)) (hd : (x == ("__debug__" : Str)) = false := by decide)
    (hcd : (x == ("__classdict__" : Str)) = false := by decide) : DE X (.Name x pos) (dV i) :=
  ⟨PE.imp (pv i hN hv hd hcd) fun σ H Q ⟨G, ea, F, ad, env, S, R, h1, q⟩ => by
    obtain ⟨v, h2, h3⟩ := S.slotR h1
    exact ⟨v, h2, q v F ad H (Grow.refl _ _) S h3⟩, fun m ⟨R, h1, h2⟩ => ⟨R, h1, m _ _ h2⟩⟩
/-! ### from a new thing to data: it is left as it is from then on -/
def dFz (r : RN) : RE := fun env Q => r env fun m env' => ∃ ds, m = .lst ds ∧ Q (.val (.list ds)) env'
theorem de_fz {r : RN} (h : DN X e r) : DE X e (dFz r) :=
  ⟨PE.imp h.run fun σ H Q ⟨G, ea, F, ad, env, S, q⟩ => ⟨G, ea, F, ad, env, S, h.mono (fun m env' ⟨ds, em, q⟩ => by
    subst em
    intro p F' ad' H' g S' fr
    obtain ⟨xs, h1, h2⟩ := fr.is
    have hp : H' p ≠ none := by rw [h1]; exact fun z => nomatch z
    have e : Ex F' (upd F' p (.lst xs)) := Ex.new fr.f
    have nep : ∀ x, H x ≠ none → x ≠ p := fun x hx z => hx (by rw [z]; exact fr.h0)
    refine q (.ref p) (upd F' p (.lst xs)) ad' H' ⟨g.ex.trans e, fun x hx => by rw [upd_ne (nep x hx)]; exact g.fr x hx, g.dom⟩ ?_ (.lst upd_same (h2.mono e))
    exact S'.freeze e (fun x hx => upd_ne hx) (ex_upd S'.fh h1) fr.am fr.ax) q⟩, fun m q => h.mono (fun mm env' ⟨ds, e, q⟩ => ⟨ds, e, m _ _ q⟩) q⟩
end
end Dl
/-! Dl2: expressions over data: operators, comparisons, subscripts, displays, calls of built-ins. -/
namespace Dl
open PySem L2

/-- nothing that was known changes -/
structure GV (F H F' H' : Hp) : Prop where
  ex : Ex F F'
  eh : Ex H H'
  fr : ∀ a, H a ≠ none → F' a = F a
  fh : Ex F' H'
theorem GV.refl {F H : Hp} (fh : Ex F H) : GV F H F H := ⟨Ex.refl F, Ex.refl H, fun _ _ => rfl, fh⟩
theorem GV.new {F H : Hp} (fh : Ex F H) {p : Addr} {o : HO} (h : H p = none) : GV F H (upd F p o) (upd H p o) := by
  have g := Grow.new (o := o) fh h
  exact ⟨g.ex, Ex.new h, g.fr, ex_upd (ex_mut fh (fnone fh h)) upd_same⟩
theorem GV.grow {F H F' H' : Hp} (g : GV F H F' H') : Grow F H F' H' := ⟨g.ex, g.fr, dom_ex g.eh⟩
theorem Sat.gv {K : PySem.W.Frag} {G : Hp} {ea : Nat → Addr} {F F' : Hp} {ad : Nat → Addr} {env : En} {σ : St} {H H' : Hp} (S : Sat K G ea F ad env σ H) (g : GV F H F' H') : Sat K G ea F' ad env σ H' :=
  S.ext' g.eh g.ex g.fr g.fh

/-! ### two-place operators -/
/-- the reading r answers by f -/
def OpOk (K : PySem.W.Frag) (r : R2) (f : D → D → Option D) : Prop :=
  ∀ (F H : Hp) (x y : V) (dx dy dz : D) (Q : VK), Ex F H → RpN K F H x dx → RpN K F H y dy → f dx dy = some dz →
    (∀ v F' H', GV F H F' H' → Rp K F' v dz → Q v H') → r x y H Q
def dOp (f : D → D → Option D) (ra rb : RE) : RE := fun env Q => ra env fun R1 env1 => rb env1 fun R2 env2 =>
  ∃ dx dy dz, R1.d env2 = some dx ∧ R2.d env2 = some dy ∧ f dx dy = some dz ∧ Q (.val dz) env2
theorem dOp_mono {X : Cx} {a b : Expr} {f : D → D → Option D} {ra rb : RE} (ha : DE X a ra) (hb : DE X b rb) {env : En} {Q Q' : Rv → En → Prop} (m : ∀ R env', Q R env' → Q' R env') (h : dOp f ra rb env Q) : dOp f ra rb env Q' :=
  ha.mono (fun R1 env1 h1 => hb.mono (fun R2 env2 ⟨dx, dy, dz, h1, h2, h3, q⟩ => ⟨dx, dy, dz, h1, h2, h3, m _ _ q⟩) h1) h
theorem lift_op {X : Cx} {a b : Expr} {ra rb : RE} {r : R2} {f : D → D → Option D} (hk : OpOk X.K r f) (ha : DE X a ra) (hb : DE X b rb) (σ : St) (H : Hp) (Q : VK) (h : liftE X.K (dOp f ra rb) σ H Q) :
    tOp r (liftE X.K ra) (liftE X.K rb) σ H Q := by
  obtain ⟨G, ea, F, ad, env, S, q⟩ := h
  refine ⟨G, ea, F, ad, env, S, ha.mono (fun R1 env1 q1 => ?_) q⟩
  intro x F1 ad1 H1 g1 S1 r1
  refine ⟨G, ea, F1, ad1, env1, S1, hb.mono (fun R2 env2 q2 => ?_) q1⟩
  intro y F2 ad2 H2 g2 S2 r2
  obtain ⟨dx, dy, dz, e1, e2, e3, q3⟩ := q2
  refine hk F2 H2 x y dx dy dz Q S2.fh (S2.now (r1.mono g2.ex) e1) (S2.now r2 e2) e3 fun v F' H' g r => ?_
  exact q3 v F' ad2 H' ((g1.trans g2).trans g.grow) (S2.gv g) r
section
variable {X : Cx} {a b c e : Expr} {ra rb rc : RE} {pos : Pos}
theorem de_op {op : Operator} {r : R2} {f : D → D → Option D} (o : OpR X (binaryOp op) r ∧ OpOk X.K r f) (ha : DE X a ra) (hb : DE X b rb) : DE X (.BinOp a op b pos) (dOp f ra rb) :=
  ⟨PE.imp (pe_op o.1 ha.run hb.run) (lift_op o.2 ha hb), dOp_mono ha hb⟩
theorem de_cmp {op : CmpOp} {r : R2} {f : D → D → Option D} (o : OpR X (compareOp op) r ∧ OpOk X.K r f) (ha : DE X a ra) (hb : DE X b rb) (hm : behindInMarks op b = false) : DE X (.Compare a [op] [b] pos) (dOp f ra rb) :=
  ⟨PE.imp (pe_cmpR o.1 ha.run hb.run hm) (lift_op o.2 ha hb), dOp_mono ha hb⟩
theorem de_ix {r : R2} {f : D → D → Option D} (o : IxR X r ∧ OpOk X.K r f) (ha : DE X a ra) (hb : DE X b rb) (hs : PlainIx b) : DE X (.Subscript a b pos) (dOp f ra rb) :=
  ⟨PE.imp (pe_ix o.1 ha.run hb.run hs) (lift_op o.2 ha hb), dOp_mono ha hb⟩
/-- a value that is a bool, as a test -/
def dB (r : RE) : RT := fun env Q => r env fun R env' => ∃ k, R = .val (.bool k) ∧ Q k env'
theorem lift_B {r : RE} (h : DE X e r) (σ : St) (H : Hp) (Q : Bool → Hp → Prop) (q : liftT X.K (dB r) σ H Q) : liftE X.K r σ H fun x H' => ∃ k, x = .bl k ∧ Q k H' := by
  obtain ⟨G, ea, F, ad, env, S, q⟩ := q
  refine ⟨G, ea, F, ad, env, S, h.mono (fun R env' q => ?_) q⟩
  intro v F' ad' H' g S' r
  obtain ⟨k, rfl, q⟩ := q
  have r' : Rp X.K F' v (.bool k) := r
  cases r'
  exact ⟨k, rfl, q F' ad' H' g S'⟩
theorem dB_mono {r : RE} (h : DE X e r) {env : En} {Q Q' : Bool → En → Prop} (m : ∀ b env', Q b env' → Q' b env') (q : dB r env Q) : dB r env Q' :=
  h.mono (fun R env' ⟨k, e, q⟩ => ⟨k, e, m _ _ q⟩) q
theorem dt_cmp {op : CmpOp} {r : R2} {f : D → D → Option D} (o : OpR X (compareOp op) r ∧ OpOk X.K r f) (ha : DE X a ra) (hb : DE X b rb) (hm : behindInMarks op b = false) : DT X (.Compare a [op] [b] pos) (dB (dOp f ra rb)) :=
  ⟨PT.imp (pt_cmpR o.1 ha.run hb.run hm) fun σ H Q q => lift_op o.2 ha hb σ H _ (lift_B (e := .Compare a [op] [b] pos) (de_cmp o ha hb hm) σ H Q q), dB_mono (de_cmp (pos := pos) o ha hb hm)⟩
theorem dt_val {r : RE} (h : DE X e r) (he : ∀ whole, isTrue e X.env whole = (do let v ← whole; standAt e.pos; holding [v] (truthy v)) := by intro _; rfl) : DT X e (dB r) :=
  ⟨PT.imp (pt_val h.run he) fun σ H Q q => lift_B h σ H Q q, dB_mono h⟩
/-! ### a op1 b op2 c -/
def dChain (f f' : D → D → Option D) (ra rb rc : RE) : RE := fun env Q => ra env fun R1 env1 => rb env1 fun R2 env2 =>
  ∃ dx dy k, R1.d env2 = some dx ∧ R2.d env2 = some dy ∧ f dx dy = some (.bool k) ∧ (k = true → rc env2 fun R3 env3 => ∃ dy' dz dw, R2.d env3 = some dy' ∧ R3.d env3 = some dz ∧ f' dy' dz = some dw ∧ Q (.val dw) env3) ∧ (k = false → Q (.val (.bool false)) env2)
theorem dChain_mono {f f' : D → D → Option D} (ha : DE X a ra) (hb : DE X b rb) (hc : DE X c rc) : ∀ {env Q Q'}, (∀ R env', Q R env' → Q' R env') → dChain f f' ra rb rc env Q → dChain f f' ra rb rc env Q' := fun m h =>
  ha.mono (fun R1 env1 h1 => hb.mono (fun R2 env2 ⟨dx, dy, k, h1, h2, h3, q1, q2⟩ => ⟨dx, dy, k, h1, h2, h3, fun z => hc.mono (fun _ _ ⟨x, y, w, e1, e2, e3, q⟩ => ⟨x, y, w, e1, e2, e3, m _ _ q⟩) (q1 z), fun z => m _ _ (q2 z)⟩) h1) h
theorem lift_chain {r r' : R2} {f f' : D → D → Option D} (o : OpOk X.K r f) (o' : OpOk X.K r' f') (ha : DE X a ra) (hb : DE X b rb) (hc : DE X c rc) (σ : St) (H : Hp) (Q : VK) (h : liftE X.K (dChain f f' ra rb rc) σ H Q) :
    tChain r r' (liftE X.K ra) (liftE X.K rb) (liftE X.K rc) σ H Q := by
  obtain ⟨G, ea, F, ad, env, S, q⟩ := h
  refine ⟨G, ea, F, ad, env, S, ha.mono (fun R1 env1 q1 => ?_) q⟩
  intro x F1 ad1 H1 g1 S1 r1
  refine ⟨G, ea, F1, ad1, env1, S1, hb.mono (fun R2 env2 q2 => ?_) q1⟩
  intro y F2 ad2 H2 g2 S2 r2
  obtain ⟨dx, dy, k, e1, e2, e3, q3, q4⟩ := q2
  refine o F2 H2 x y dx dy (.bool k) _ S2.fh (S2.now (r1.mono g2.ex) e1) (S2.now r2 e2) e3 fun v F' H' g rr => ?_
  cases rr
  refine ⟨k, rfl, ?_⟩
  cases k with
  | false =>
    rw [if_neg Bool.false_ne_true]
    exact q4 rfl (.bl false) F' ad2 H' ((g1.trans g2).trans g.grow) (S2.gv g) (.bl false)
  | true =>
    rw [if_pos rfl]
    refine ⟨G, ea, F', ad2, env2, S2.gv g, hc.mono (fun R3 env3 q5 => ?_) (q3 rfl)⟩
    intro w F3 ad3 H3 g3 S3 r3
    obtain ⟨dy', dz, dw, e1', e2', e3', q6⟩ := q5
    refine o' F3 H3 y w dy' dz dw Q S3.fh (S3.now ((r2.mono g.ex).mono g3.ex) e1') (S3.now r3 e2') e3' fun v F'' H'' g'' r => ?_
    exact q6 v F'' ad3 H'' ((((g1.trans g2).trans g.grow).trans g3).trans g''.grow) (S3.gv g'') r
theorem de_chain {op op' : CmpOp} {r r' : R2} {f f' : D → D → Option D} (o : OpR X (compareOp op) r ∧ OpOk X.K r f) (o' : OpR X (compareOp op') r' ∧ OpOk X.K r' f') (ha : DE X a ra) (hb : DE X b rb) (hc : DE X c rc)
    (hm : lastMarks [op, op'] [b, c] = false := by with_unfolding_all rfl) : DE X (.Compare a [op, op'] [b, c] pos) (dChain f f' ra rb rc) :=
  ⟨PE.imp (pe_chain o.1 o'.1 ha.run hb.run hc.run hm) (lift_chain o.2 o'.2 ha hb hc), dChain_mono ha hb hc⟩
theorem dt_chain {op op' : CmpOp} {r r' : R2} {f f' : D → D → Option D} (o : OpR X (compareOp op) r ∧ OpOk X.K r f) (o' : OpR X (compareOp op') r' ∧ OpOk X.K r' f') (ha : DE X a ra) (hb : DE X b rb) (hc : DE X c rc)
    (hm : lastMarks [op, op'] [b, c] = false := by with_unfolding_all rfl) : DT X (.Compare a [op, op'] [b, c] pos) (dB (dChain f f' ra rb rc)) :=
  ⟨PT.imp (pt_chain o.1 o'.1 ha.run hb.run hc.run hm) fun σ H Q q => lift_chain o.2 o'.2 ha hb hc σ H _ (lift_B (de_chain (pos := pos) o o' ha hb hc hm) σ H Q q), dB_mono (de_chain (pos := pos) o o' ha hb hc hm)⟩
/-! ### one-place -/
def dUn (f : D → Option D) (ra : RE) : RE := fun env Q => ra env fun R env1 => ∃ dx dz, R.d env1 = some dx ∧ f dx = some dz ∧ Q (.val dz) env1
def UnOk (K : PySem.W.Frag) (r : V → Hp → VK → Prop) (f : D → Option D) : Prop :=
  ∀ (F H : Hp) (x : V) (dx dz : D) (Q : VK), Ex F H → RpN K F H x dx → f dx = some dz → (∀ v F' H', GV F H F' H' → Rp K F' v dz → Q v H') → r x H Q
theorem dUn_mono {f : D → Option D} (ha : DE X a ra) : ∀ {env Q Q'}, (∀ R env', Q R env' → Q' R env') → dUn f ra env Q → dUn f ra env Q' := fun m h =>
  ha.mono (fun R1 env1 ⟨dx, dz, h1, h2, q⟩ => ⟨dx, dz, h1, h2, m _ _ q⟩) h
theorem lift_un {r : V → Hp → VK → Prop} {f : D → Option D} (hk : UnOk X.K r f) (ha : DE X a ra) (σ : St) (H : Hp) (Q : VK) (h : liftE X.K (dUn f ra) σ H Q) : tUn r (liftE X.K ra) σ H Q := by
  obtain ⟨G, ea, F, ad, env, S, q⟩ := h
  refine ⟨G, ea, F, ad, env, S, ha.mono (fun R1 env1 q1 => ?_) q⟩
  intro x F1 ad1 H1 g1 S1 r1
  obtain ⟨dx, dz, e1, e3, q3⟩ := q1
  refine hk F1 H1 x dx dz Q S1.fh (S1.now r1 e1) e3 fun v F' H' g r => ?_
  exact q3 v F' ad1 H' (g1.trans g.grow) (S1.gv g) r
theorem de_un {op : UnaryOp} {r : V → Hp → VK → Prop} {f : D → Option D} (o : UnR X (unaryOp op) r ∧ UnOk X.K r f) (ha : DE X a ra) : DE X (.UnaryOp op a pos) (dUn f ra) :=
  ⟨PE.imp (pe_un o.1 ha.run) (lift_un o.2 ha), dUn_mono ha⟩
/-! ### and, or, not -/
variable {tA tB : RT} {rest : List Expr}
def dAndT (t u : RT) : RT := fun env Q => t env fun k env1 => (k = true → u env1 Q) ∧ (k = false → Q false env1)
def dOrT (t u : RT) : RT := fun env Q => t env fun k env1 => (k = true → Q true env1) ∧ (k = false → u env1 Q)
def dNotT (t : RT) : RT := fun env Q => t env fun k env1 => Q (!k) env1
structure DW (X : Cx) (e : Expr) (r : RT) : Prop where
  run : PW X e (liftT X.K r)
  mono : ∀ {env Q Q'}, (∀ b env', Q b env' → Q' b env') → r env Q → r env Q'
theorem PW.imp {X : Cx} {e : Expr} {t t' : TT} (h : PW X e t) (i : ∀ σ H Q, t' σ H Q → t σ H Q) : PW X e t' := ⟨fun w pins s σ H Q I q => h.run w pins s σ H Q I (i σ H Q q)⟩
theorem DW.dt {e : Expr} {r : RT} (h : DW X e r) : DT X e r := ⟨h.run.pt, h.mono⟩
theorem dw_and1 (ha : DT X a tA) : DW X (.BoolOp .And [a] pos) tA := ⟨pw_and1 ha.run, ha.mono⟩
theorem dw_or1 (ha : DT X a tA) : DW X (.BoolOp .Or [a] pos) tA := ⟨pw_or1 ha.run, ha.mono⟩
theorem dw_and (ha : DT X a tA) (hb : DW X (.BoolOp .And (b :: rest) pos) tB) : DW X (.BoolOp .And (a :: b :: rest) pos) (dAndT tA tB) :=
  ⟨PW.imp (pw_and ha.run hb.run) fun σ H Q ⟨G, ea, F, ad, env, S, q⟩ => ⟨G, ea, F, ad, env, S, ha.mono (fun k env1 ⟨q1, q2⟩ F1 ad1 H1 g1 S1 => by
    cases k with
    | true =>
      rw [if_pos rfl]
      exact ⟨G, ea, F1, ad1, env1, S1, hb.mono (fun k2 env2 q F2 ad2 H2 g2 S2 => q F2 ad2 H2 (g1.trans g2) S2) (q1 rfl)⟩
    | false => exact q2 rfl F1 ad1 H1 g1 S1) q⟩, fun m h => ha.mono (fun k env1 ⟨q1, q2⟩ => ⟨fun z => hb.mono m (q1 z), fun z => m _ _ (q2 z)⟩) h⟩
theorem dw_or (ha : DT X a tA) (hb : DW X (.BoolOp .Or (b :: rest) pos) tB) : DW X (.BoolOp .Or (a :: b :: rest) pos) (dOrT tA tB) :=
  ⟨PW.imp (pw_or ha.run hb.run) fun σ H Q ⟨G, ea, F, ad, env, S, q⟩ => ⟨G, ea, F, ad, env, S, ha.mono (fun k env1 ⟨q1, q2⟩ F1 ad1 H1 g1 S1 => by
    cases k with
    | true => exact q1 rfl F1 ad1 H1 g1 S1
    | false =>
      rw [if_neg Bool.false_ne_true]
      exact ⟨G, ea, F1, ad1, env1, S1, hb.mono (fun k2 env2 q F2 ad2 H2 g2 S2 => q F2 ad2 H2 (g1.trans g2) S2) (q2 rfl)⟩) q⟩, fun m h => ha.mono (fun k env1 ⟨q1, q2⟩ => ⟨fun z => m _ _ (q1 z), fun z => hb.mono m (q2 z)⟩) h⟩
theorem dt_not (ha : DT X a tA) : DT X (.UnaryOp .Not a pos) (dNotT tA) :=
  ⟨PT.imp (pt_not ha.run) fun σ H Q ⟨G, ea, F, ad, env, S, q⟩ => ⟨G, ea, F, ad, env, S, ha.mono (fun k env1 q F1 ad1 H1 g1 S1 => q F1 ad1 H1 g1 S1) q⟩, fun m h => ha.mono (fun k env1 q => m _ _ q) h⟩
/-- .. as values -/
def dAndV (ra rb : RE) : RE := fun env Q => ra env fun R env1 => ∃ k, R = .val (.bool k) ∧ (k = true → rb env1 Q) ∧ (k = false → Q (.val (.bool false)) env1)
def dOrV (ra rb : RE) : RE := fun env Q => ra env fun R env1 => ∃ k, R = .val (.bool k) ∧ (k = true → Q (.val (.bool true)) env1) ∧ (k = false → rb env1 Q)
def dNotV (ra : RE) : RE := fun env Q => ra env fun R env1 => ∃ k, R = .val (.bool k) ∧ Q (.val (.bool (!k))) env1
theorem de_one {op : BoolOp} (h : DE X a ra) : DE X (.BoolOp op [a] pos) ra := ⟨pe_one h.run, h.mono⟩
theorem de_and (ha : DE X a ra) (hb : DE X (.BoolOp .And (b :: rest) pos) rb) : DE X (.BoolOp .And (a :: b :: rest) pos) (dAndV ra rb) :=
  ⟨PE.imp (pe_and ha.run hb.run) fun σ H Q ⟨G, ea, F, ad, env, S, q⟩ => ⟨G, ea, F, ad, env, S, ha.mono (fun R env1 ⟨k, e, q1, q2⟩ v F1 ad1 H1 g1 S1 r1 => by
    subst e
    have r1' : Rp X.K F1 v (.bool k) := r1
    cases r1'
    refine ⟨k, rfl, ?_⟩
    cases k with
    | true =>
      rw [if_pos rfl]
      exact ⟨G, ea, F1, ad1, env1, S1, hb.mono (fun k2 env2 q v F2 ad2 H2 g2 S2 => q v F2 ad2 H2 (g1.trans g2) S2) (q1 rfl)⟩
    | false => exact q2 rfl (.bl false) F1 ad1 H1 g1 S1 (.bl false)) q⟩, fun m h => ha.mono (fun R env1 ⟨k, e, q1, q2⟩ => ⟨k, e, fun z => hb.mono m (q1 z), fun z => m _ _ (q2 z)⟩) h⟩
theorem de_or (ha : DE X a ra) (hb : DE X (.BoolOp .Or (b :: rest) pos) rb) : DE X (.BoolOp .Or (a :: b :: rest) pos) (dOrV ra rb) :=
  ⟨PE.imp (pe_or ha.run hb.run) fun σ H Q ⟨G, ea, F, ad, env, S, q⟩ => ⟨G, ea, F, ad, env, S, ha.mono (fun R env1 ⟨k, e, q1, q2⟩ v F1 ad1 H1 g1 S1 r1 => by
    subst e
    have r1' : Rp X.K F1 v (.bool k) := r1
    cases r1'
    refine ⟨k, rfl, ?_⟩
    cases k with
    | true => exact q1 rfl (.bl true) F1 ad1 H1 g1 S1 (.bl true)
    | false =>
      rw [if_neg Bool.false_ne_true]
      exact ⟨G, ea, F1, ad1, env1, S1, hb.mono (fun k2 env2 q v F2 ad2 H2 g2 S2 => q v F2 ad2 H2 (g1.trans g2) S2) (q2 rfl)⟩) q⟩, fun m h => ha.mono (fun R env1 ⟨k, e, q1, q2⟩ => ⟨k, e, fun z => m _ _ (q1 z), fun z => hb.mono m (q2 z)⟩) h⟩
theorem de_not (ha : DE X a ra) : DE X (.UnaryOp .Not a pos) (dNotV ra) :=
  ⟨PE.imp (pe_not ha.run) fun σ H Q ⟨G, ea, F, ad, env, S, q⟩ => ⟨G, ea, F, ad, env, S, ha.mono (fun R env1 ⟨k, e, q1⟩ v F1 ad1 H1 g1 S1 r1 => by
    subst e
    have r1' : Rp X.K F1 v (.bool k) := r1
    cases r1'
    exact ⟨k, rfl, q1 (.bl (!k)) F1 ad1 H1 g1 S1 (.bl (!k))⟩) q⟩, fun m h => ha.mono (fun R env1 ⟨k, e, q1⟩ => ⟨k, e, m _ _ q1⟩) h⟩
/-- a if t else b -/
def dIf (t : RT) (ra rb : RE) : RE := fun env Q => t env fun k env1 => (k = true → ra env1 Q) ∧ (k = false → rb env1 Q)
theorem de_if {t : RT} (hc : DT X c t) (ha : DE X a ra) (hb : DE X b rb) : DE X (.IfExp c a b pos) (dIf t ra rb) :=
  ⟨PE.imp (pe_ifExp hc.run ha.run hb.run) fun σ H Q ⟨G, ea, F, ad, env, S, q⟩ => ⟨G, ea, F, ad, env, S, hc.mono (fun k env1 ⟨q1, q2⟩ F1 ad1 H1 g1 S1 => by
    cases k with
    | true =>
      rw [if_pos rfl]
      exact ⟨G, ea, F1, ad1, env1, S1, ha.mono (fun k2 env2 q v F2 ad2 H2 g2 S2 => q v F2 ad2 H2 (g1.trans g2) S2) (q1 rfl)⟩
    | false =>
      rw [if_neg Bool.false_ne_true]
      exact ⟨G, ea, F1, ad1, env1, S1, hb.mono (fun k2 env2 q v F2 ad2 H2 g2 S2 => q v F2 ad2 H2 (g1.trans g2) S2) (q2 rfl)⟩) q⟩, fun m h => hc.mono (fun k env1 ⟨q1, q2⟩ => ⟨fun z => ha.mono m (q1 z), fun z => hb.mono m (q2 z)⟩) h⟩
/-- .. of new things -/
def dIfN (t : RT) (ra rb : RN) : RN := fun env Q => t env fun k env1 => (k = true → ra env1 Q) ∧ (k = false → rb env1 Q)
/-! ### argument lists -/
variable {es : List Expr}
def dNil : RA := fun env Q => Q [] env
def dCons (ra : RE) (rs : RA) : RA := fun env Q => ra env fun R env1 => rs env1 fun Rs env2 => Q (R :: Rs) env2
theorem da_nil : DA X [] dNil := ⟨PA.imp pa_nil fun σ H Q ⟨G, ea, F, ad, env, S, q⟩ => q [] F ad H (Grow.refl _ _) S .nil, fun m h => m _ _ h⟩
theorem da_cons {rs : RA} (ha : DE X e ra) (hr : DA X es rs) (hs : starEach (e :: es) X.env = (false, eval e X.env) :: starEach es X.env := by rfl) : DA X (e :: es) (dCons ra rs) :=
  ⟨PA.imp (pa_cons ha.run hr.run hs) fun σ H Q ⟨G, ea, F, ad, env, S, q⟩ => ⟨G, ea, F, ad, env, S, ha.mono (fun R env1 q1 v F1 ad1 H1 g1 S1 r1 =>
    ⟨G, ea, F1, ad1, env1, S1, hr.mono (fun Rs env2 q2 vs F2 ad2 H2 g2 S2 r2 => q2 (v :: vs) F2 ad2 H2 (g1.trans g2) S2 (.cons (r1.mono g2.ex) r2)) q1⟩) q⟩,
   fun m h => ha.mono (fun R env1 q => hr.mono (fun Rs env2 q => m _ _ q) q) h⟩
/-- all are data that stand still -/
theorem rsAll_vals {K : PySem.W.Frag} {F : Hp} {σ : St} {ea : Nat → Addr} : ∀ {ds : List D} {vs : List V}, RsAll K F σ ea (ds.map Rv.val) vs → RpAll K F vs ds
  | [], _, h => by cases h; exact .nil
  | d :: ds, _, h => by
    rw [List.map_cons] at h
    cases h with
    | cons h1 t => exact .cons h1 (rsAll_vals t)
/-! ### displays -/
def dTup (rs : RA) : RE := fun env Q => rs env fun Rs env1 => ∃ ds : List D, Rs = ds.map Rv.val ∧ ds.length ≤ 10000 ∧ Q (.val (.tuple ds)) env1
def dLst (rs : RA) : RN := fun env Q => rs env fun Rs env1 => ∃ ds : List D, Rs = ds.map Rv.val ∧ ds.length ≤ 10000 ∧ Q (.lst ds) env1
theorem line_of {n : Nat} (h : n ≤ 10000) : n ≤ sizeLine := Nat.le_trans h (by decide)
theorem de_tup {rs : RA} {x1} (h : DA X es rs) : DE X (.Tuple es x1 pos) (dTup rs) :=
  ⟨PE.imp (pe_tup h.run) fun σ H Q ⟨G, ea, F, ad, env, S, q⟩ => ⟨G, ea, F, ad, env, S, h.mono (fun Rs env1 ⟨ds, e, hl, q⟩ vs F1 ad1 H1 g1 S1 r1 => by
    subst e
    have r2 := rsAll_vals r1
    refine ⟨by rw [r2.len]; exact line_of hl, fun p hp => ?_⟩
    have g := GV.new (o := .tup vs) S1.fh hp
    exact q (.ref p) _ ad1 _ (g1.trans g.grow) (S1.gv g) (.tup (Or.inl (Or.inl upd_same)) (r2.mono g.ex))) q⟩,
   fun m h' => h.mono (fun Rs env1 ⟨ds, e, hl, q⟩ => ⟨ds, e, hl, m _ _ q⟩) h'⟩
theorem Sat.fresh {K : PySem.W.Frag} {G : Hp} {ea : Nat → Addr} {F : Hp} {ad : Nat → Addr} {env : En} {σ : St} {H : Hp} {p : Addr} {o : HO} {m : Mu} {H0 : Hp} (S : Sat K G ea F ad env σ H) (hp : H p = none) (h0 : ∀ a, H0 a ≠ none → H a ≠ none) (hm : MuIs K F (upd H p o) p m) :
    Fresh K G ea F ad env H0 (upd H p o) p m where
  is := hm
  f := fnone S.fh hp
  g := fnone S.gh hp
  h0 := by
    cases q : H0 p with
    | none => rfl
    | some u => exact absurd hp (h0 p (by rw [q]; exact fun z => nomatch z))
  am := fun i mi h z => by
    have := (S.mus i mi h).2.1.there
    rw [z] at this; exact this hp
  ax := fun k mk h z => by
    have := (S.xts k mk h).1.there
    rw [z] at this; exact this hp
theorem dn_lst {rs : RA} (h : DA X es rs) : DN X (.List es pos) (dLst rs) :=
  ⟨PE.imp (pe_lst h.run) fun σ H Q ⟨G, ea, F, ad, env, S, q⟩ => ⟨G, ea, F, ad, env, S, h.mono (fun Rs env1 ⟨ds, e, hl, q⟩ vs F1 ad1 H1 g1 S1 r1 => by
    subst e
    have r2 := rsAll_vals r1
    refine ⟨by rw [r2.len]; exact line_of hl, fun p hp => ?_⟩
    exact q p F1 ad1 _ (g1.trans (Grow.newM hp)) (S1.newM hp) (S1.fresh hp g1.dom ⟨vs, upd_same, r2⟩)) q⟩,
   fun m h' => h.mono (fun Rs env1 ⟨ds, e, hl, q⟩ => ⟨ds, e, hl, m _ _ q⟩) h'⟩
end
end Dl
/-! Dl3: statements over data. -/
namespace Dl
open PySem L2

inductive Res where
  | val (d : D)
  | new (m : Mu)
def ResIs (K : PySem.W.Frag) (G : Hp) (ea : Nat → Addr) (F : Hp) (env : En) (H : Hp) : Res → V → Prop
  | .val d, v => Rp K F v d
  | .new m, v => ∃ p, v = .ref p ∧ MuIs K F H p m ∧ F p = none ∧ G p = none ∧ ∀ (k : Nat) (mk : Mu), env.xt[k]? = some mk → ea k ≠ p
structure DEnds where
  nx : En → Prop
  rt : Res → En → Prop
  bk : En → Prop := fun _ => False
  ct : En → Prop := fun _ => False
structure DEnds.le (D D' : DEnds) : Prop where
  nx : ∀ e, D.nx e → D'.nx e
  rt : ∀ r e, D.rt r e → D'.rt r e
  bk : ∀ e, D.bk e → D'.bk e
  ct : ∀ e, D.ct e → D'.ct e
theorem DEnds.le.refl (D : DEnds) : D.le D := ⟨fun _ h => h, fun _ _ h => h, fun _ h => h, fun _ h => h⟩
abbrev RS := DEnds → En → Prop
/-- the ends over data lead to the ends -/
structure Leads (K : PySem.W.Frag) (G : Hp) (ea : Nat → Addr) (F H : Hp) (De : DEnds) (Ds : Ends) : Prop where
  nx : ∀ env σ F' ad H', Grow F H F' H' → Sat K G ea F' ad env σ H' → De.nx env → Ds.nx σ H'
  bk : ∀ env σ F' ad H', Grow F H F' H' → Sat K G ea F' ad env σ H' → De.bk env → Ds.bk σ H'
  ct : ∀ env σ F' ad H', Grow F H F' H' → Sat K G ea F' ad env σ H' → De.ct env → Ds.ct σ H'
  rt : ∀ R v env σ F' ad H', Grow F H F' H' → Sat K G ea F' ad env σ H' → ResIs K G ea F' env H' R v → De.rt R env → Ds.rt v H'
theorem Leads.grow {K : PySem.W.Frag} {G : Hp} {ea : Nat → Addr} {F H F' H' : Hp} {De : DEnds} {Ds : Ends} (l : Leads K G ea F H De Ds) (g : Grow F H F' H') : Leads K G ea F' H' De Ds :=
  ⟨fun env σ F2 ad H2 g2 => l.nx env σ F2 ad H2 (g.trans g2), fun env σ F2 ad H2 g2 => l.bk env σ F2 ad H2 (g.trans g2), fun env σ F2 ad H2 g2 => l.ct env σ F2 ad H2 (g.trans g2), fun R v env σ F2 ad H2 g2 => l.rt R v env σ F2 ad H2 (g.trans g2)⟩
theorem Leads.le {K : PySem.W.Frag} {G : Hp} {ea : Nat → Addr} {F H : Hp} {De De' : DEnds} {Ds : Ends} (l : Leads K G ea F H De' Ds) (g : De.le De') : Leads K G ea F H De Ds :=
  ⟨fun env σ F2 ad H2 g2 S h => l.nx env σ F2 ad H2 g2 S (g.nx _ h), fun env σ F2 ad H2 g2 S h => l.bk env σ F2 ad H2 g2 S (g.bk _ h), fun env σ F2 ad H2 g2 S h => l.ct env σ F2 ad H2 g2 S (g.ct _ h), fun R v env σ F2 ad H2 g2 S r h => l.rt R v env σ F2 ad H2 g2 S r (g.rt _ _ h)⟩
def liftS (K : PySem.W.Frag) (r : RS) : TS := fun Ds σ H => ∃ G ea F ad env De, Sat K G ea F ad env σ H ∧ Leads K G ea F H De Ds ∧ r De env
structure DS (X : Cx) (st : Stmt) (r : RS) : Prop where
  run : PS X st (liftS X.K r)
  mono : ∀ {D D' : DEnds} {env}, D.le D' → r D env → r D' env
structure DSs (X : Cx) (st : List Stmt) (r : RS) : Prop where
  run : PSs X st (liftS X.K r)
  mono : ∀ {D D' : DEnds} {env}, D.le D' → r D env → r D' env
section
variable {X : Cx} {st : Stmt} {rest : List Stmt} {t u : RS} {e : Expr} {pos : Pos} {ra : RE}
/-! ### blocks -/
def dNext : RS := fun D env => D.nx env
def dSeq (t u : RS) : RS := fun D env => t { D with nx := u D } env
theorem le_nx {D D' : DEnds} {n n' : En → Prop} (l : D.le D') (h : ∀ e, n e → n' e) : DEnds.le { D with nx := n } { D' with nx := n' } := ⟨h, l.rt, l.bk, l.ct⟩
theorem dss_nil : DSs X [] dNext := ⟨PSs.imp pss_nil fun D σ H ⟨G, ea, F, ad, env, De, S, l, q⟩ => l.nx env σ F ad H (Grow.refl _ _) S q, fun l h => l.nx _ h⟩
theorem dss_cons (h1 : DS X st t) (h2 : DSs X rest u) : DSs X (st :: rest) (dSeq t u) :=
  ⟨PSs.imp (pss_cons h1.run h2.run) fun D σ H ⟨G, ea, F, ad, env, De, S, l, q⟩ => ⟨G, ea, F, ad, env, { De with nx := u De }, S,
    ⟨fun env' σ' F' ad' H' g S' q => ⟨G, ea, F', ad', env', De, S', l.grow g, q⟩, l.bk, l.ct, l.rt⟩, q⟩,
   fun l h => h1.mono (le_nx l fun e q => h2.mono l q) h⟩
theorem dss_one (h1 : DS X st t) : DSs X [st] t := ⟨pss_one h1.run, h1.mono⟩
theorem ds_pass : DS X (.Pass pos) dNext := ⟨PS.imp ps_pass fun D σ H ⟨G, ea, F, ad, env, De, S, l, q⟩ => l.nx env σ F ad H (Grow.refl _ _) S q, fun l h => l.nx _ h⟩
def dBreak : RS := fun D env => D.bk env
def dCont : RS := fun D env => D.ct env
theorem ds_break : DS X (.Break pos) dBreak := ⟨PS.imp ps_break fun D σ H ⟨G, ea, F, ad, env, De, S, l, q⟩ => l.bk env σ F ad H (Grow.refl _ _) S q, fun l h => l.bk _ h⟩
theorem ds_cont : DS X (.Continue pos) dCont := ⟨PS.imp ps_continue fun D σ H ⟨G, ea, F, ad, env, De, S, l, q⟩ => l.ct env σ F ad H (Grow.refl _ _) S q, fun l h => l.ct _ h⟩
/-- an expression whose value is dropped -/
def dDrop (ra : RE) : RS := fun D env => ra env fun _ env1 => D.nx env1
theorem ds_expr (he : DE X e ra) (hs : swapsWith e none pos.line X.env = pure false := by rfl) : DS X (.Expr e pos) (dDrop ra) :=
  ⟨PS.imp (ps_expr he.run hs) fun D σ H ⟨G, ea, F, ad, env, De, S, l, q⟩ => ⟨G, ea, F, ad, env, S, he.mono (fun R env1 q v F1 ad1 H1 g1 S1 _ => l.nx env1 σ F1 ad1 H1 g1 S1 q) q⟩,
   fun l h => he.mono (fun R env1 q => l.nx _ q) h⟩
/-! ### return -/
def slNew (env : En) : Rv → Option Res
  | .val d => some (.val d)
  | .slot i => ((env.sl[i]?).bind slMu).map Res.new
  | .ext _ => none
def dRet (ra : RE) : RS := fun D env => ra env fun R env1 => ∃ r, slNew env1 R = some r ∧ D.rt r env1
theorem ds_ret (he : DE X e ra) : DS X (.Return (some e) pos) (dRet ra) :=
  ⟨PS.imp (ps_ret he.run) fun D σ H ⟨G, ea, F, ad, env, De, S, l, q⟩ => ⟨G, ea, F, ad, env, S, he.mono (fun R env1 ⟨r, e, q⟩ v F1 ad1 H1 g1 S1 r1 => by
    cases R with
    | val d => cases e; exact l.rt (.val d) v env1 σ F1 ad1 H1 g1 S1 r1 q
    | ext k => cases e
    | slot i =>
      have e' : ((env1.sl[i]?).bind slMu).map Res.new = some r := e
      cases z : env1.sl[i]? with
      | none => rw [z] at e'; cases e'
      | some s =>
        rw [z] at e'
        cases s with
        | mu m =>
          cases e'
          obtain ⟨h1, h2, h3, h4⟩ := S1.mus i m z
          have r' : σ[i]? = some (some v) := r1
          rw [h1] at r'
          cases r'
          exact l.rt (.new m) _ env1 σ F1 ad1 H1 g1 S1 ⟨_, rfl, h2, h3, h4, fun k mk hk => (S1.dmx i m k mk z hk).symm⟩ q
        | _ => cases e') q⟩,
   fun l h => he.mono (fun R env1 ⟨r, e, q⟩ => ⟨r, e, l.rt _ _ q⟩) h⟩
def dRetN (rn : RN) : RS := fun D env => rn env fun m env1 => D.rt (.new m) env1
theorem ds_retN {rn : RN} (he : DN X e rn) : DS X (.Return (some e) pos) (dRetN rn) :=
  ⟨PS.imp (ps_ret he.run) fun D σ H ⟨G, ea, F, ad, env, De, S, l, q⟩ => ⟨G, ea, F, ad, env, S, he.mono (fun m env1 q p F1 ad1 H1 g1 S1 fr =>
    l.rt (.new m) (.ref p) env1 σ F1 ad1 H1 g1 S1 ⟨p, rfl, fr.is, fr.f, fr.g, fr.ax⟩ q) q⟩,
   fun l h => he.mono (fun R env1 q => l.rt _ _ q) h⟩
def dRet0 : RS := fun D env => D.rt (.val .none) env
theorem ds_ret0 : DS X (.Return none pos) dRet0 := ⟨PS.imp ps_retN fun D σ H ⟨G, ea, F, ad, env, De, S, l, q⟩ => l.rt (.val .none) .non env σ F ad H (Grow.refl _ _) S .non q, fun l h => l.rt _ _ h⟩
/-! ### if -/
def dIfS (c : RT) (t u : RS) : RS := fun D env => c env fun b env1 => (b = true → t D env1) ∧ (b = false → u D env1)
theorem ds_if {c : Expr} {a b : List Stmt} {rc : RT} (hc : DT X c rc) (ha : DSs X a t) (hb : DSs X b u) : DS X (.If c a b pos) (dIfS rc t u) :=
  ⟨PS.imp (ps_if hc.run ha.run hb.run) fun D σ H ⟨G, ea, F, ad, env, De, S, l, q⟩ => ⟨G, ea, F, ad, env, S, hc.mono (fun k env1 ⟨q1, q2⟩ F1 ad1 H1 g1 S1 => by
    cases k with
    | true => rw [if_pos rfl]; exact ⟨G, ea, F1, ad1, env1, De, S1, l.grow g1, q1 rfl⟩
    | false => rw [if_neg Bool.false_ne_true]; exact ⟨G, ea, F1, ad1, env1, De, S1, l.grow g1, q2 rfl⟩) q⟩,
   fun l h => hc.mono (fun k env1 ⟨q1, q2⟩ => ⟨fun z => ha.mono l (q1 z), fun z => hb.mono l (q2 z)⟩) h⟩
end
/-! ### stores -/
def En.set (env : En) (i : Nat) (s : Sl) : En := ⟨env.sl.set i s, env.xt⟩
section
variable {K : PySem.W.Frag} {G : Hp} {ea : Nat → Addr} {F : Hp} {ad : Nat → Addr} {env : En} {σ : St} {H : Hp}
theorem get_set {α : Type} {l : List α} {i j : Nat} {x y : α} (h : (l.set i x)[j]? = some y) : (j = i ∧ i < l.length ∧ y = x) ∨ (j ≠ i ∧ l[j]? = some y) := by
  rw [List.getElem?_set] at h
  split at h
  · rename_i e
    subst e
    split at h
    · cases h; exact .inl ⟨rfl, by assumption, rfl⟩
    · cases h
  · rename_i e
    exact .inr ⟨fun z => e z.symm, h⟩
theorem Sat.setVal (S : Sat K G ea F ad env σ H) {i : Nat} {v : V} {d : D} (r : Rp K F v d) : Sat K G ea F ad (env.set i (.val d)) (σ.set i (some v)) H where
  fh := S.fh
  gh := S.gh
  len := by show (σ.set i _).length = (env.sl.set i _).length; rw [List.length_set, List.length_set]; exact S.len
  val := fun j d' h => by
    rcases get_set h with ⟨rfl, hl, e⟩ | ⟨ne, h⟩
    · cases e; exact ⟨v, by rw [List.getElem?_set_self (by rw [S.len]; exact hl)], r⟩
    · rw [List.getElem?_set_ne (Ne.symm ne)]; exact S.val j d' h
  mus := fun j m h => by
    rcases get_set h with ⟨rfl, hl, e⟩ | ⟨ne, h⟩
    · cases e
    · rw [List.getElem?_set_ne (Ne.symm ne)]; exact S.mus j m h
  ext := fun j m h => by
    rcases get_set h with ⟨rfl, hl, e⟩ | ⟨ne, h⟩
    · cases e
    · rw [List.getElem?_set_ne (Ne.symm ne)]; exact S.ext j m h
  scr := fun j m h => by
    rcases get_set h with ⟨rfl, hl, e⟩ | ⟨ne, h⟩
    · cases e
    · rw [List.getElem?_set_ne (Ne.symm ne)]; exact S.scr j m h
  xts := S.xts
  dmm := fun a b ma mb ha hb ne => by
    rcases get_set ha with ⟨_, _, e⟩ | ⟨_, ha⟩
    · cases e
    · rcases get_set hb with ⟨_, _, e⟩ | ⟨_, hb⟩
      · cases e
      · exact S.dmm a b ma mb ha hb ne
  dmx := fun a ma k mk ha hk => by
    rcases get_set ha with ⟨_, _, e⟩ | ⟨_, ha⟩
    · cases e
    · exact S.dmx a ma k mk ha hk
  dxx := S.dxx
theorem Sat.setMu (S : Sat K G ea F ad env σ H) {i : Nat} {p : Addr} {m : Mu} (is : MuIs K F H p m) (f : F p = none) (g : G p = none) (am : ∀ (j : Nat) (mj : Mu), env.sl[j]? = some (.mu mj) → ad j ≠ p) (ax : ∀ (k : Nat) (mk : Mu), env.xt[k]? = some mk → ea k ≠ p) :
    Sat K G ea F (fun j => if j = i then p else ad j) (env.set i (.mu m)) (σ.set i (some (.ref p))) H where
  fh := S.fh
  gh := S.gh
  len := by show (σ.set i _).length = (env.sl.set i _).length; rw [List.length_set, List.length_set]; exact S.len
  val := fun j d' h => by
    rcases get_set h with ⟨rfl, hl, e⟩ | ⟨ne, h⟩
    · cases e
    · rw [List.getElem?_set_ne (Ne.symm ne)]; exact S.val j d' h
  mus := fun j m' h => by
    rcases get_set h with ⟨rfl, hl, e⟩ | ⟨ne, h⟩
    · cases e
      simp only [if_true]
      exact ⟨by rw [List.getElem?_set_self (by rw [S.len]; exact hl)], is, f, g⟩
    · rw [List.getElem?_set_ne (Ne.symm ne)]; simp only [if_neg ne]; exact S.mus j m' h
  ext := fun j m h => by
    rcases get_set h with ⟨rfl, hl, e⟩ | ⟨ne, h⟩
    · cases e
    · rw [List.getElem?_set_ne (Ne.symm ne)]; exact S.ext j m h
  scr := fun j m h => by
    rcases get_set h with ⟨rfl, hl, e⟩ | ⟨ne, h⟩
    · cases e
    · rw [List.getElem?_set_ne (Ne.symm ne)]; exact S.scr j m h
  xts := S.xts
  dmm := fun a b ma mb ha hb ne => by
    rcases get_set ha with ⟨ea', _, e⟩ | ⟨na, ha⟩
    · rcases get_set hb with ⟨eb, _, e⟩ | ⟨nb, hb⟩
      · exact absurd (ea'.trans eb.symm) ne
      · simp only [if_pos ea', if_neg nb]; exact (am b mb hb).symm
    · rcases get_set hb with ⟨eb, _, e⟩ | ⟨nb, hb⟩
      · simp only [if_pos eb, if_neg na]; exact am a ma ha
      · simp only [if_neg na, if_neg nb]; exact S.dmm a b ma mb ha hb ne
  dmx := fun a ma k mk ha hk => by
    rcases get_set ha with ⟨ea', _, e⟩ | ⟨na, ha⟩
    · simp only [if_pos ea']; exact (ax k mk hk).symm
    · simp only [if_neg na]; exact S.dmx a ma k mk ha hk
  dxx := S.dxx
end
/-! targets: a name's slot, or a tuple of targets -/
inductive Tg where
  | nm (i : Nat)
  | tup (l : List Tg)
mutual
def tgSet : Tg → D → En → Option En
  | .nm i, d, env => some (env.set i (.val d))
  | .tup l, .tuple ds, env => tgsSet l ds env
  | .tup _, _, _ => none
def tgsSet : List Tg → List D → En → Option En
  | [], [], env => some env
  | t :: ts, d :: ds, env => (tgSet t d env).bind fun env' => tgsSet ts ds env'
  | _, _, _ => none
end
mutual
def tgSlots : Tg → List Nat
  | .nm i => [i]
  | .tup l => tgsSlots l
def tgsSlots : List Tg → List Nat
  | [] => []
  | t :: ts => tgSlots t ++ tgsSlots ts
end
mutual
theorem tgSet_keep : ∀ {t : Tg} {d : D} {env env' : En}, tgSet t d env = some env' → env'.xt = env.xt ∧ env'.sl.length = env.sl.length ∧ ∀ j, j ∉ tgSlots t → env'.sl[j]? = env.sl[j]?
  | .nm i, d, env, env', h => by
    rw [tgSet] at h
    cases h
    refine ⟨rfl, List.length_set .., fun j hj => ?_⟩
    rw [tgSlots] at hj
    exact List.getElem?_set_ne (fun z => hj (by rw [z]; exact List.mem_cons_self))
  | .tup l, .tuple ds, env, env', h => by
    rw [tgSet] at h
    rw [tgSlots]
    exact tgsSet_keep h
  | .tup l, .none, env, env', h => by simp [tgSet] at h
  | .tup l, .bool _, env, env', h => by simp [tgSet] at h
  | .tup l, .int _, env, env', h => by simp [tgSet] at h
  | .tup l, .str _, env, env', h => by simp [tgSet] at h
  | .tup l, .list _, env, env', h => by simp [tgSet] at h
  | .tup l, .dict _, env, env', h => by simp [tgSet] at h
theorem tgsSet_keep : ∀ {t : List Tg} {d : List D} {env env' : En}, tgsSet t d env = some env' → env'.xt = env.xt ∧ env'.sl.length = env.sl.length ∧ ∀ j, j ∉ tgsSlots t → env'.sl[j]? = env.sl[j]?
  | [], [], env, env', h => by rw [tgsSet] at h; cases h; exact ⟨rfl, rfl, fun _ _ => rfl⟩
  | t :: ts, d :: ds, env, env', h => by
    rw [tgsSet] at h
    cases q : tgSet t d env with
    | none => rw [q] at h; cases h
    | some e1 =>
      rw [q] at h
      obtain ⟨a1, a2, a3⟩ := tgSet_keep q
      obtain ⟨b1, b2, b3⟩ := tgsSet_keep (env := e1) h
      refine ⟨b1.trans a1, b2.trans a2, fun j hj => ?_⟩
      rw [tgsSlots, List.mem_append, not_or] at hj
      rw [b3 j hj.2, a3 j hj.1]
  | [], d :: ds, env, env', h => by simp [tgsSet] at h
  | t :: ts, [], env, env', h => by simp [tgsSet] at h
end
def liftG (K : PySem.W.Frag) (t : Tg) : TG := fun v σ H Q => ∃ G ea F ad env d env', Sat K G ea F ad env σ H ∧ Rp K F v d ∧ tgSet t d env = some env' ∧
  ∀ σ' ad', Sat K G ea F ad' env' σ' H → σ'.length = σ.length → (∀ j, j ∉ tgSlots t → σ'[j]? = σ[j]?) → Q σ' H
structure DG (X : Cx) (tg : Expr) (t : Tg) : Prop where
  run : PG X tg (liftG X.K t)
def liftGs (K : PySem.W.Frag) (t : List Tg) : TGs := fun vs σ H Q => ∃ G ea F ad env ds env', Sat K G ea F ad env σ H ∧ RpAll K F vs ds ∧ tgsSet t ds env = some env' ∧
  ∀ σ' ad', Sat K G ea F ad' env' σ' H → σ'.length = σ.length → (∀ j, j ∉ tgsSlots t → σ'[j]? = σ[j]?) → Q σ' H
structure DGs (X : Cx) (tg : List Expr) (t : List Tg) : Prop where
  run : PGs X tg (liftGs X.K t)
theorem PG.imp {X : Cx} {tg : Expr} {t t' : TG} (h : PG X tg t) (i : ∀ v σ H Q, t' v σ H Q → t v σ H Q) : PG X tg t' := ⟨fun pins s σ H v u Q I r q => h.run pins s σ H v u Q I r (i v σ H Q q)⟩
theorem PGs.imp {X : Cx} {tg : List Expr} {t t' : TGs} (h : PGs X tg t) (i : ∀ v σ H Q, t' v σ H Q → t v σ H Q) : PGs X tg t' := ⟨fun pins s σ H v u Q I r q => h.run pins s σ H v u Q I r (i v σ H Q q)⟩
section
variable {X : Cx} {pos : Pos} {e : Expr} {es : List Expr}
theorem dg_name (i : Nat) {x : Str} (hN : X.N.Nodup) (hi : X.N[i]? = some x := by rfl) (hx : Loc X.env.scope x := by first | exact Or.inl rfl | exact Or.inr rfl) (hf : X.fn x = true ∨ X.env.scope.names.lookup x = some .local := by first | exact .inl rfl | exact .inr rfl | assumption) : DG X (.Name x pos) (.nm i) :=
  ⟨PG.imp (pg_name hN hi hx hf) fun v σ H Q ⟨G, ea, F, ad, env, d, env', S, r, e, q⟩ => by
    rw [tgSet] at e
    cases e
    exact q _ ad (S.setVal r) (List.length_set ..) fun j hj => by
      rw [tgSlots] at hj
      exact List.getElem?_set_ne (fun z => hj (by rw [z]; exact List.mem_cons_self))⟩
theorem dgs_nil : DGs X [] [] := ⟨PGs.imp pgs_nil fun v σ H Q ⟨G, ea, F, ad, env, d, env', S, r, e, q⟩ => by
    cases d with
    | nil => rw [tgsSet] at e; cases e; cases r; exact ⟨rfl, q σ ad S rfl fun _ _ => rfl⟩
    | cons _ _ => simp [tgsSet] at e⟩
theorem dgs_cons {g : Tg} {u : List Tg} (h1 : DG X e g) (h2 : DGs X es u) (hs : (assignEach (e :: es) X.env).map (·.2) = assign e X.env :: (assignEach es X.env).map (·.2) := by rfl) : DGs X (e :: es) (g :: u) :=
  ⟨PGs.imp (pgs_cons h1.run h2.run hs) fun vs σ H Q ⟨G, ea, F, ad, env, ds, env', S, r, e, q⟩ => by
    cases r with
    | nil => simp [tgsSet] at e
    | @cons v vs d ds r1 r2 =>
      rw [tgsSet] at e
      cases z : tgSet g d env with
      | none => rw [z] at e; cases e
      | some e1 =>
        rw [z] at e
        refine ⟨_, _, rfl, G, ea, F, ad, env, d, e1, S, r1, z, fun σ1 ad1 S1 l1 k1 => ⟨G, ea, F, ad1, e1, ds, env', S1, r2, e, fun σ2 ad2 S2 l2 k2 => q σ2 ad2 S2 (l2.trans l1) fun j hj => ?_⟩⟩
        rw [tgsSlots, List.mem_append, not_or] at hj
        rw [k2 j hj.2, k1 j hj.1]⟩
theorem tgsSet_len : ∀ {t : List Tg} {d : List D} {env env' : En}, tgsSet t d env = some env' → d.length = t.length
  | [], [], env, env', h => rfl
  | t :: ts, d :: ds, env, env', h => by
    rw [tgsSet] at h
    cases q : tgSet t d env with
    | none => rw [q] at h; cases h
    | some e1 =>
      rw [q] at h
      rw [List.length_cons, List.length_cons, tgsSet_len (env := e1) h]
  | [], d :: ds, env, env', h => by simp [tgsSet] at h
  | t :: ts, [], env, env', h => by simp [tgsSet] at h
theorem dg_tup {k : Nat} {u : List Tg} (hc : X.calm = true) (h : DGs X es u) (hn : (assignEach es X.env).length = u.length := by rfl) (hst : (assignEach es X.env).findIdx? (·.1) = none := by rfl) : DG X (.Tuple es k pos) (.tup u) :=
  ⟨PG.imp (pg_tup hc h.run hn hst) fun v σ H Q ⟨G, ea, F, ad, env, d, env', S, r, e, q⟩ => by
    cases r with
    | @tup a xs ds h1 h2 =>
      rw [tgSet] at e
      exact ⟨_, _, rfl, ex_t S.fh h1, by rw [h2.len, tgsSet_len e], G, ea, F, ad, env, ds, env', S, h2, e, fun σ' ad' S' l k => q σ' ad' S' l (by rw [tgSlots]; exact k)⟩
    | _ => simp [tgSet] at e⟩
variable {ra : RE}
def dAsg (ra : RE) (t : Tg) : RS := fun D env => ra env fun R env1 => ∃ d env2, R = .val d ∧ tgSet t d env1 = some env2 ∧ D.nx env2
theorem ds_asg {tg : Expr} {t : Tg} (he : DE X e ra) (hg : DG X tg t) (hs : swapsWithSole [tg] e pos.line X.env = pure false := by rfl) (hw : swappedStores [tg] e X.env = pure none := by rfl)
    (h1 : (assignEach [tg] X.env).map (·.2) = [assign tg X.env] := by rfl) : DS X (.Assign [tg] e pos) (dAsg ra t) :=
  ⟨PS.imp (ps_asg he.run hg.run hs hw h1) fun D σ H ⟨G, ea, F, ad, env, De, S, l, q⟩ => ⟨G, ea, F, ad, env, S, he.mono (fun R env1 ⟨d, env2, e, e2, q⟩ v F1 ad1 H1 g1 S1 r1 => by
    subst e
    exact ⟨G, ea, F1, ad1, env1, d, env2, S1, r1, e2, fun σ2 ad2 S2 _ _ => l.nx env2 σ2 F1 ad2 H1 g1 S2 q⟩) q⟩,
   fun l h => he.mono (fun R env1 ⟨d, env2, e, e2, q⟩ => ⟨d, env2, e, e2, l.nx _ q⟩) h⟩
/-- x = a new thing that may change -/
def dAsgN (i : Nat) (rn : RN) : RS := fun D env => rn env fun m env1 => D.nx (env1.set i (.mu m))
theorem Fresh.set {K : PySem.W.Frag} {G : Hp} {ea : Nat → Addr} {F : Hp} {ad : Nat → Addr} {env : En} {σ : St} {H0 H : Hp} {p : Addr} {m : Mu} (f : Fresh K G ea F ad env H0 H p m) (S : Sat K G ea F ad env σ H) (i : Nat) :
    Sat K G ea F (fun j => if j = i then p else ad j) (env.set i (.mu m)) (σ.set i (some (.ref p))) H := S.setMu f.is f.f f.g f.am f.ax
theorem ds_asgN {i : Nat} {x : Str} {pos' : Pos} {rn : RN} (he : DN X e rn) (hN : X.N.Nodup) (hi : X.N[i]? = some x := by rfl) (hx : Loc X.env.scope x := by first | exact Or.inl rfl | exact Or.inr rfl)
    (hf : X.fn x = true ∨ X.env.scope.names.lookup x = some .local := by first | exact .inl rfl | exact .inr rfl | assumption) (hs : swapsWith e (some (.Name x pos')) pos.line X.env = pure false := by rfl) : DS X (.Assign [.Name x pos'] e pos) (dAsgN i rn) :=
  ⟨PS.imp (ps_set hN hi hx he.run hs hf) fun D σ H ⟨G, ea, F, ad, env, De, S, l, q⟩ => ⟨G, ea, F, ad, env, S, he.mono (fun m env1 q p F1 ad1 H1 g1 S1 fr =>
      l.nx _ _ F1 _ H1 g1 (fr.set S1 i) q) q⟩,
   fun l h => he.mono (fun R env1 q => l.nx _ q) h⟩
/-! ### a, b = x, y: data and new things -/
abbrev RM := En → (List Res → En → Prop) → Prop
inductive MixIs (K : PySem.W.Frag) (G : Hp) (ea : Nat → Addr) (F : Hp) (ad : Nat → Addr) (env : En) (H0 H : Hp) : List Res → List V → List Addr → Prop
  | nil : MixIs K G ea F ad env H0 H [] [] []
  | val {d v Rs vs ps} : Rp K F v d → MixIs K G ea F ad env H0 H Rs vs ps → MixIs K G ea F ad env H0 H (.val d :: Rs) (v :: vs) ps
  | new {m p Rs vs ps} : Fresh K G ea F ad env H0 H p m → p ∉ ps → MixIs K G ea F ad env H0 H Rs vs ps → MixIs K G ea F ad env H0 H (.new m :: Rs) (.ref p :: vs) (p :: ps)
def liftM (K : PySem.W.Frag) (r : RM) : TA := fun σ H Q => ∃ G ea F ad env, Sat K G ea F ad env σ H ∧
  r env fun Rs env' => ∀ vs ps F' ad' H', Grow F H F' H' → Sat K G ea F' ad' env' σ H' → MixIs K G ea F' ad' env' H H' Rs vs ps → Q vs H'
structure DM (X : Cx) (es : List Expr) (r : RM) : Prop where
  run : PA X es (liftM X.K r)
  mono : ∀ {env Q Q'}, (∀ Rs env', Q Rs env' → Q' Rs env') → r env Q → r env Q'
def dmNil : RM := fun env Q => Q [] env
def dmVal (ra : RE) (rs : RM) : RM := fun env Q => ra env fun R env1 => ∃ d, R = .val d ∧ rs env1 fun Rs env2 => Q (.val d :: Rs) env2
def dmNew (rn : RN) (rs : RM) : RM := fun env Q => rn env fun m env1 => rs env1 fun Rs env2 => Q (.new m :: Rs) env2
theorem Fresh.weak {K : PySem.W.Frag} {G : Hp} {ea : Nat → Addr} {F : Hp} {ad : Nat → Addr} {env : En} {H0 H1 H : Hp} {p : Addr} {m : Mu} (f : Fresh K G ea F ad env H1 H p m) (h : ∀ a, H0 a ≠ none → H1 a ≠ none) : Fresh K G ea F ad env H0 H p m :=
  ⟨f.is, f.f, f.g, by
    cases q : H0 p with
    | none => rfl
    | some u => exact absurd f.h0 (h p (by rw [q]; exact fun z => nomatch z)), f.am, f.ax⟩
theorem MixIs.weak {K : PySem.W.Frag} {G : Hp} {ea : Nat → Addr} {F : Hp} {ad : Nat → Addr} {env : En} {H0 H1 H : Hp} (h : ∀ a, H0 a ≠ none → H1 a ≠ none) : ∀ {Rs vs ps}, MixIs K G ea F ad env H1 H Rs vs ps → MixIs K G ea F ad env H0 H Rs vs ps
  | _, _, _, .nil => .nil
  | _, _, _, .val r t => .val r (MixIs.weak h t)
  | _, _, _, .new f n t => .new (f.weak h) n (MixIs.weak h t)
theorem dm_nil : DM X [] dmNil := ⟨PA.imp pa_nil fun σ H Q ⟨G, ea, F, ad, env, S, q⟩ => q [] [] F ad H (Grow.refl _ _) S .nil, fun m h => m _ _ h⟩
theorem dm_val {rs : RM} (ha : DE X e ra) (hr : DM X es rs) (hs : starEach (e :: es) X.env = (false, eval e X.env) :: starEach es X.env := by rfl) : DM X (e :: es) (dmVal ra rs) :=
  ⟨PA.imp (pa_cons ha.run hr.run hs) fun σ H Q ⟨G, ea, F, ad, env, S, q⟩ => ⟨G, ea, F, ad, env, S, ha.mono (fun R env1 ⟨d, e, q1⟩ v F1 ad1 H1 g1 S1 r1 => by
    subst e
    exact ⟨G, ea, F1, ad1, env1, S1, hr.mono (fun Rs env2 q2 vs ps F2 ad2 H2 g2 S2 r2 => q2 (v :: vs) ps F2 ad2 H2 (g1.trans g2) S2 (.val (Rp.mono g2.ex r1) (r2.weak g1.dom))) q1⟩) q⟩,
   fun m h => ha.mono (fun R env1 ⟨d, e, q⟩ => ⟨d, e, hr.mono (fun Rs env2 q => m _ _ q) q⟩) h⟩
/-- what a frame keeps may grow by a new thing -/
theorem Sat.keep {K : PySem.W.Frag} {G : Hp} {ea : Nat → Addr} {F : Hp} {ad : Nat → Addr} {env : En} {σ : St} {H : Hp} {p : Addr} {o : HO} (S : Sat K G ea F ad env σ H) (hp : H p = some o)
    (am : ∀ (j : Nat) (mj : Mu), env.sl[j]? = some (.mu mj) → ad j ≠ p) (ax : ∀ (k : Nat) (mk : Mu), env.xt[k]? = some mk → ea k ≠ p) : Sat K (upd G p o) ea F ad env σ H where
  fh := S.fh
  gh := ex_upd S.gh hp
  len := S.len
  val := S.val
  mus := fun i m h => by
    obtain ⟨h1, h2, h3, h4⟩ := S.mus i m h
    exact ⟨h1, h2, h3, by rw [upd_ne (am i m h)]; exact h4⟩
  ext := S.ext
  scr := S.scr
  xts := fun k m h => by
    obtain ⟨h2, h3, h4⟩ := S.xts k m h
    exact ⟨h2, h3, by rw [upd_ne (ax k m h)]; exact h4⟩
  dmm := S.dmm
  dmx := S.dmx
  dxx := S.dxx
theorem Sat.unkeep {K : PySem.W.Frag} {G : Hp} {ea : Nat → Addr} {F : Hp} {ad : Nat → Addr} {env : En} {σ : St} {H : Hp} {p : Addr} {o : HO} (S : Sat K (upd G p o) ea F ad env σ H) (gp : G p = none) : Sat K G ea F ad env σ H where
  fh := S.fh
  gh := (Ex.new gp).trans S.gh
  len := S.len
  val := S.val
  mus := fun i m h => by
    obtain ⟨h1, h2, h3, h4⟩ := S.mus i m h
    exact ⟨h1, h2, h3, fnone (Ex.new gp) h4⟩
  ext := S.ext
  scr := S.scr
  xts := fun k m h => by
    obtain ⟨h2, h3, h4⟩ := S.xts k m h
    exact ⟨h2, h3, fnone (Ex.new gp) h4⟩
  dmm := S.dmm
  dmx := S.dmx
  dxx := S.dxx
theorem MixIs.unkeep {K : PySem.W.Frag} {G : Hp} {ea : Nat → Addr} {F : Hp} {ad : Nat → Addr} {env : En} {H0 H : Hp} {p : Addr} {o : HO} (gp : G p = none) : ∀ {Rs vs ps}, MixIs K (upd G p o) ea F ad env H0 H Rs vs ps → MixIs K G ea F ad env H0 H Rs vs ps ∧ p ∉ ps
  | _, _, _, .nil => ⟨.nil, by simp⟩
  | _, _, _, .val r t => ⟨.val r (MixIs.unkeep gp t).1, (MixIs.unkeep gp t).2⟩
  | _, _, _, .new f n t => by
    obtain ⟨t1, t2⟩ := MixIs.unkeep gp t
    refine ⟨.new ⟨f.is, f.f, fnone (Ex.new gp) f.g, f.h0, f.am, f.ax⟩ n t1, fun h => ?_⟩
    rcases List.mem_cons.mp h with z | z
    · have q := f.g
      rw [← z, upd_same] at q
      cases q
    · exact t2 z
theorem dm_new {rn : RN} {rs : RM} (ha : DN X e rn) (hr : DM X es rs) (hs : starEach (e :: es) X.env = (false, eval e X.env) :: starEach es X.env := by rfl) : DM X (e :: es) (dmNew rn rs) :=
  ⟨PA.imp (pa_cons ha.run hr.run hs) fun σ H Q ⟨G, ea, F, ad, env, S, q⟩ => ⟨G, ea, F, ad, env, S, ha.mono (fun m env1 q1 p F1 ad1 H1 g1 S1 fr => by
    cases hp : H1 p with
    | none => exact absurd hp fr.is.there
    | some o =>
      refine ⟨upd G p o, ea, F1, ad1, env1, S1.keep hp fr.am fr.ax, hr.mono (fun Rs env2 q2 vs ps F2 ad2 H2 g2 S2 r2 => ?_) q1⟩
      obtain ⟨r3, np⟩ := r2.unkeep fr.g
      have hp2 : H2 p = some o := S2.gh p o upd_same
      refine q2 (.ref p :: vs) (p :: ps) F2 ad2 H2 (g1.trans g2) (S2.unkeep fr.g) (.new ⟨fr.is.grow g2.ex (by rw [hp2, hp]), ?_, fr.g, fr.h0, ?_, ?_⟩ np (r3.weak g1.dom))
      · rw [g2.fr p fr.is.there]; exact fr.f
      · intro i mi h z
        have := (S2.mus i mi h).2.2.2
        rw [z, upd_same] at this; cases this
      · intro i mi h z
        have := (S2.xts i mi h).2.2
        rw [z, upd_same] at this; cases this) q⟩,
   fun m h => ha.mono (fun R env1 q => hr.mono (fun Rs env2 q => m _ _ q) q) h⟩
def slOf : Res → Sl
  | .val d => .val d
  | .new m => .mu m
def setAll : List Nat → List Res → En → En
  | i :: is, R :: Rs, env => setAll is Rs (env.set i (slOf R))
  | _, _, env => env
def setVs : List Nat → List V → St → St
  | i :: is, v :: vs, σ => setVs is vs (σ.set i (some v))
  | _, _, σ => σ
theorem Sat.setAll {K : PySem.W.Frag} {G : Hp} {ea : Nat → Addr} {F : Hp} {H0 H : Hp} {ad' : Nat → Addr} {env' : En} : ∀ (is : List Nat) {Rs : List Res} {vs : List V} {ps : List Addr} {ad : Nat → Addr} {env : En} {σ : St}, Sat K G ea F ad env σ H →
    (∀ (j : Nat) (mj : Mu), env.sl[j]? = some (.mu mj) → ad j ∉ ps) → env.xt = env'.xt → MixIs K G ea F ad' env' H0 H Rs vs ps → ∃ ad2, Sat K G ea F ad2 (Dl.setAll is Rs env) (setVs is vs σ) H := by
  intro is
  induction is with
  | nil => intro Rs vs ps ad env σ S n x M; exact ⟨ad, by unfold Dl.setAll setVs; exact S⟩
  | cons i is ih =>
    intro Rs vs ps ad env σ S n x M
    cases M with
    | nil => exact ⟨ad, S⟩
    | val r t =>
      exact ih (S.setVal r) (fun j mj h => by
        rcases get_set h with ⟨_, _, e⟩ | ⟨_, h⟩
        · cases e
        · exact n j mj h) x t
    | new f np t =>
      refine ih (S.setMu (i := i) f.is f.f f.g (fun j mj h z => n j mj h (by rw [z]; exact List.mem_cons_self)) (fun k mk h => f.ax k mk (by rw [← x]; exact h))) (fun j mj h => ?_) x t
      rcases get_set h with ⟨ej, _, e⟩ | ⟨nj, h⟩
      · simp only [if_pos ej]; exact np
      · simp only [if_neg nj]; exact fun z => n j mj h (List.mem_cons_of_mem _ z)
theorem MixIs.am {K : PySem.W.Frag} {G : Hp} {ea : Nat → Addr} {F : Hp} {ad : Nat → Addr} {env : En} {H0 H : Hp} {j : Nat} {mj : Mu} (h : env.sl[j]? = some (.mu mj)) : ∀ {Rs vs ps}, MixIs K G ea F ad env H0 H Rs vs ps → ad j ∉ ps
  | _, _, _, .nil => by simp
  | _, _, _, .val r t => MixIs.am h t
  | _, _, _, .new f n t => fun z => by
    rcases List.mem_cons.mp z with z | z
    · exact f.am j mj h z
    · exact MixIs.am h t z
def dPar (is : List Nat) (rm : RM) : RS := fun D env => rm env fun Rs env1 => Rs.length = is.length ∧ D.nx (setAll is Rs env1)
theorem MixIs.len {K : PySem.W.Frag} {G : Hp} {ea : Nat → Addr} {F : Hp} {ad : Nat → Addr} {env : En} {H0 H : Hp} : ∀ {Rs vs ps}, MixIs K G ea F ad env H0 H Rs vs ps → vs.length = Rs.length
  | _, _, _, .nil => rfl
  | _, _, _, .val r t => by rw [List.length_cons, List.length_cons, MixIs.len t]
  | _, _, _, .new f n t => by rw [List.length_cons, List.length_cons, MixIs.len t]
theorem ds_par {i j : Nat} {x y : Str} {a b : Expr} {rm : RM} {px py pt : Pos} {kt k2 pt2} (hc : X.calm = true) (hN : X.N.Nodup) (hij : i ≠ j) (ha : DM X [a, b] rm) (hi : X.N[i]? = some x := by rfl) (hj : X.N[j]? = some y := by rfl)
    (hx : X.env.scope.names.lookup x = some .local := by rfl) (hy : X.env.scope.names.lookup y = some .local := by rfl)
    (hw : swappedStores [.Tuple [.Name x px, .Name y py] kt pt] (.Tuple [a, b] k2 pt2) X.env = pure (some [x, y]) := by rfl)
    (hs : swapsWithSole [.Tuple [.Name x px, .Name y py] kt pt] (.Tuple [a, b] k2 pt2) pos.line X.env = pure false := by rfl) :
    DS X (.Assign [.Tuple [.Name x px, .Name y py] kt pt] (.Tuple [a, b] k2 pt2) pos) (dPar [i, j] rm) :=
  ⟨PS.imp (L2.ps_par hc hN hi hj hij hx hy ha.run hw hs) fun D σ H ⟨G, ea, F, ad, env, De, S, l, q⟩ => ⟨G, ea, F, ad, env, S, ha.mono (fun Rs env1 ⟨hl, q⟩ vs ps F1 ad1 H1 g1 S1 r1 => by
    obtain ⟨ad2, S2⟩ := S1.setAll [i, j] (fun _ _ h => r1.am h) rfl r1
    have hv := r1.len.trans hl
    match vs, hv with
    | [v, w], _ => exact ⟨v, w, rfl, l.nx _ _ F1 ad2 H1 g1 S2 q⟩) q⟩,
   fun l h => ha.mono (fun R env1 ⟨e, q⟩ => ⟨e, l.nx _ q⟩) h⟩
theorem ds_par3 {i j m : Nat} {x y z : Str} {a b c : Expr} {rm : RM} {px py pz pt : Pos} {kt k2 pt2} (hc : X.calm = true) (hN : X.N.Nodup) (hij : i ≠ j) (hil : i ≠ m) (hjl : j ≠ m) (ha : DM X [a, b, c] rm) (hi : X.N[i]? = some x := by rfl) (hj : X.N[j]? = some y := by rfl) (hl : X.N[m]? = some z := by rfl)
    (hx : X.env.scope.names.lookup x = some .local := by rfl) (hy : X.env.scope.names.lookup y = some .local := by rfl) (hz : X.env.scope.names.lookup z = some .local := by rfl)
    (hw : swappedStores [.Tuple [.Name x px, .Name y py, .Name z pz] kt pt] (.Tuple [a, b, c] k2 pt2) X.env = pure (some [x, y, z]) := by rfl)
    (hs : swapsWithSole [.Tuple [.Name x px, .Name y py, .Name z pz] kt pt] (.Tuple [a, b, c] k2 pt2) pos.line X.env = pure false := by rfl) :
    DS X (.Assign [.Tuple [.Name x px, .Name y py, .Name z pz] kt pt] (.Tuple [a, b, c] k2 pt2) pos) (dPar [i, j, m] rm) :=
  ⟨PS.imp (L2.ps_par3 hc hN hi hj hl hij hil hjl hx hy hz ha.run hw hs) fun D σ H ⟨G, ea, F, ad, env, De, S, l, q⟩ => ⟨G, ea, F, ad, env, S, ha.mono (fun Rs env1 ⟨hl, q⟩ vs ps F1 ad1 H1 g1 S1 r1 => by
    obtain ⟨ad2, S2⟩ := S1.setAll [i, j, m] (fun _ _ h => r1.am h) rfl r1
    have hv := r1.len.trans hl
    match vs, hv with
    | [v, w, u], _ => exact ⟨v, w, u, rfl, l.nx _ _ F1 ad2 H1 g1 S2 q⟩) q⟩,
   fun l h => ha.mono (fun R env1 ⟨e, q⟩ => ⟨e, l.nx _ q⟩) h⟩
/-- x op= e -/
def dAug (i : Nat) (f : D → D → Option D) (ra : RE) : RS := fun D env => ∃ dx, env.sl[i]? = some (.val dx) ∧ ra env fun R env1 => ∃ dy dz, R.d env1 = some dy ∧ f dx dy = some dz ∧ D.nx (env1.set i (.val dz))
def IpOk (K : PySem.W.Frag) (r : TIp) (f : D → D → Option D) : Prop :=
  ∀ (F H : Hp) (x y : V) (dx dy dz : D) (Q : VK), Ex F H → RpN K F H x dx → RpN K F H y dy → f dx dy = some dz → (∀ v F' H', GV F H F' H' → Rp K F' v dz → Q v H') → r x y H Q
theorem ds_aug {i : Nat} {x : Str} {op : Operator} {ti : TIp} {f : D → D → Option D} {pos' : Pos} (o : PIp X op ti ∧ IpOk X.K ti f) (he : DE X e ra) (hN : X.N.Nodup) (hi : X.N[i]? = some x := by rfl) (hx : Loc X.env.scope x := by first | exact Or.inl rfl | exact Or.inr rfl)
    (hf : X.fn x = true ∨ X.env.scope.names.lookup x = some .local := by first | exact .inl rfl | exact .inr rfl | assumption) : DS X (.AugAssign (.Name x pos') op e pos) (dAug i f ra) :=
  ⟨PS.imp (ps_aug hN hi hx he.run o.1 hf) fun D σ H ⟨G, ea, F, ad, env, De, S, l, dx, hd, q⟩ => by
    obtain ⟨v, h1, h2⟩ := S.val i dx hd
    refine ⟨v, h1, G, ea, F, ad, env, S, he.mono (fun R env1 ⟨dy, dz, e1, e2, q⟩ w F1 ad1 H1 g1 S1 r1 => ?_) q⟩
    refine o.2 F1 H1 v w dx dy dz _ S1.fh (Rp.now S1.fh (Rp.mono g1.ex h2)) (S1.now r1 e1) e2 fun u F' H' g r => ?_
    exact l.nx _ _ F' ad1 H' (g1.trans g.grow) ((S1.gv g).setVal r) q,
   fun l ⟨dx, hd, h⟩ => ⟨dx, hd, he.mono (fun R env1 ⟨dy, dz, e1, e2, q⟩ => ⟨dy, dz, e1, e2, l.nx _ q⟩) h⟩⟩
def fAddI : D → D → Option D
  | .int i, .int j => some (.int (i + j))
  | _, _ => none
def fSubI : D → D → Option D
  | .int i, .int j => some (.int (i - j))
  | _, _ => none
theorem oip_add : PIp X .Add (ipI fun i j => i + j) ∧ IpOk X.K (ipI fun i j => i + j) fAddI := ⟨ip_add, fun F H x y dx dy dz Q fh hx hy e q => by
  cases dx <;> cases dy <;> cases e
  cases hx; cases hy
  exact ⟨_, _, rfl, rfl, q _ F H (GV.refl fh) (.int _)⟩⟩
theorem oip_sub : PIp X .Sub (ipI fun i j => i - j) ∧ IpOk X.K (ipI fun i j => i - j) fSubI := ⟨ip_sub, fun F H x y dx dy dz Q fh hx hy e q => by
  cases dx <;> cases dy <;> cases e
  cases hx; cases hy
  exact ⟨_, _, rfl, rfl, q _ F H (GV.refl fh) (.int _)⟩⟩
end
end Dl
/-! Dl4: loops and comprehensions over data. -/
namespace Dl
open PySem L2

/-! ### what is walked: its items -/
abbrev RI := En → (List D → En → Prop) → Prop
def SrcIs (K : PySem.W.Frag) (F : Hp) (items : List D) (J : It) : Prop :=
  ∀ (F' H' : Hp), Ex F F' → Ex F' H' → ∀ i : Nat, (i < items.length → J.go i H' ∧ ∀ x H'', J.yld i H' x H'' → ∃ F'' d, items[i]? = some d ∧ GV F' H' F'' H'' ∧ Rp K F'' x d) ∧ (items.length ≤ i → J.stop i H')
def liftI (K : PySem.W.Frag) (r : RI) : TI := fun σ H R => ∃ G ea F ad env, Sat K G ea F ad env σ H ∧
  r env fun items env' => ∀ J F' ad' H', Grow F H F' H' → Sat K G ea F' ad' env' σ H' → SrcIs K F' items J → R J H'
structure DI (X : Cx) (tg iter : Expr) (r : RI) : Prop where
  run : PI X tg iter (liftI X.K r)
  mono : ∀ {env Q Q'}, (∀ it env', Q it env' → Q' it env') → r env Q → r env Q'
theorem PI.imp {X : Cx} {tg e : Expr} {t t' : TI} (h : PI X tg e t) (i : ∀ σ H Q, t' σ H Q → t σ H Q) : PI X tg e t' := ⟨fun pins s σ H Q I q => h.run pins s σ H Q I (i σ H Q q)⟩
/-- a list or a tuple -/
def iSeq (K : PySem.W.Frag) (tl : TE) : TI := fun σ H R => tl σ H fun x H1 => (∃ a, x = .ref a ∧ (∃ xs, SqL K H1 a xs) ∧ R (Itl K a) H1) ∨ (∃ a, x = .ref a ∧ (∃ xs, SqT K H1 a xs) ∧ R (Itt K a) H1)
theorem pi_seq {X : Cx} {tg l : Expr} {tl : TE} (hl : PE X l tl) : PI X tg l (iSeq X.K tl) := by
  refine ⟨fun pins s σ H R I h => ?_⟩
  refine thn (hl.run pins s σ H _ I h) fun v s1 ⟨x, H1, I1, r1, q1⟩ => ?_
  rcases q1 with ⟨a, e, ⟨xs, hq⟩, q⟩ | ⟨a, e, ⟨xs, hq⟩, q⟩
  · subst e
    cases r1
    obtain ⟨its, rv, p, hz⟩ := I1.list hq
    refine wpAny_pyIter_list p.isList ?_
    refine ⟨s1.heap.objs.size, [s1.heap.objs.size], _, _, H1, rfl, I1.kept (t' := s1.toks) fun b o e => Heap.get?_push_of_some _ e, turn_list a _, ⟨_, Heap.get?_push_size _ rfl, rfl, rfl⟩, fun b hb => ?_, q⟩
    have e : b = s1.heap.objs.size := by simpa using hb
    subst e
    exact I1.fpOk (Nat.le_refl _) (I1.hok.fresh (Nat.le_refl _))
  · subst e
    cases r1
    obtain ⟨its, rv, p, hz⟩ := I1.tuple hq
    refine wpAny_pyIter_tuple (show s1.heap.IsTuple a its.toArray from p) ?_
    refine ⟨s1.heap.objs.size, [s1.heap.objs.size], _, _, H1, rfl, I1.kept (t' := s1.toks) fun b o e => Heap.get?_push_of_some _ e, turn_tuple a _, ⟨_, Heap.get?_push_size _ rfl, rfl, rfl⟩, fun b hb => ?_, q⟩
    have e : b = s1.heap.objs.size := by simpa using hb
    subst e
    exact I1.fpOk (Nat.le_refl _) (I1.hok.fresh (Nat.le_refl _))
def seqD : D → Option (List D)
  | .list ds => some ds
  | .tuple ds => some ds
  | _ => none
theorem src_list {K : PySem.W.Frag} {F : Hp} {a : Addr} {xs : List V} {ds : List D} (h : F a = some (.lst xs)) (r : RpAll K F xs ds) : SrcIs K F ds (Itl K a) := fun F' H' e fh i => by
  have hq : SqL K H' a xs := Or.inl (Or.inl (fh _ _ (e _ _ h)))
  have hl := r.len
  refine ⟨fun hi => ?_, fun hi => ⟨xs, hq, by omega⟩⟩
  obtain ⟨v, hv, rv⟩ := r.get (List.getElem?_eq_getElem hi)
  refine ⟨⟨xs, v, hq, hv⟩, fun x H'' y => ?_⟩
  obtain ⟨rfl, y⟩ := y
  have := y xs hq
  rw [hv] at this
  cases this
  exact ⟨F', _, List.getElem?_eq_getElem hi, GV.refl fh, rv.mono e⟩
theorem src_tup {K : PySem.W.Frag} {F : Hp} {a : Addr} {xs : List V} {ds : List D} (h : SqT K F a xs) (r : RpAll K F xs ds) : SrcIs K F ds (Itt K a) := fun F' H' e fh i => by
  have hq : SqT K H' a xs := ex_t fh (ex_t e h)
  have hl := r.len
  refine ⟨fun hi => ?_, fun hi => ⟨xs, hq, by omega⟩⟩
  obtain ⟨v, hv, rv⟩ := r.get (List.getElem?_eq_getElem hi)
  refine ⟨⟨xs, v, hq, hv⟩, fun x H'' y => ?_⟩
  obtain ⟨rfl, y⟩ := y
  have := y xs hq
  rw [hv] at this
  cases this
  exact ⟨F', _, List.getElem?_eq_getElem hi, GV.refl fh, rv.mono e⟩
section
variable {X : Cx} {tg l e : Expr} {pos : Pos}
def dSeqI (ra : RE) : RI := fun env Q => ra env fun R env1 => ∃ d ds, R = .val d ∧ seqD d = some ds ∧ Q ds env1
theorem di_seq {ra : RE} (h : DE X l ra) : DI X tg l (dSeqI ra) :=
  ⟨PI.imp (pi_seq h.run) fun σ H R ⟨G, ea, F, ad, env, S, q⟩ => ⟨G, ea, F, ad, env, S, h.mono (fun R1 env1 ⟨d, ds, e1, e2, q⟩ v F1 ad1 H1 g1 S1 r1 => by
    subst e1
    have r1' : Rp X.K F1 v d := r1
    cases r1' with
    | lst h1 h2 => cases e2; exact .inl ⟨_, rfl, ⟨_, Or.inl (Or.inl (S1.fh _ _ h1))⟩, q _ F1 ad1 H1 g1 S1 (src_list h1 h2)⟩
    | tup h1 h2 => cases e2; exact .inr ⟨_, rfl, ⟨_, ex_t S1.fh h1⟩, q _ F1 ad1 H1 g1 S1 (src_tup h1 h2)⟩
    | _ => cases e2) q⟩, fun m h' => h.mono (fun R env1 ⟨d, ds, e1, e2, q⟩ => ⟨d, ds, e1, e2, m _ _ q⟩) h'⟩
/-- lo, lo + 1, .. (n of them) -/
def rgD (lo : Int) (n : Nat) : List D := (List.range n).map fun (i : Nat) => PyData.int (lo + (i : Int))
theorem src_rng {K : PySem.W.Frag} {F : Hp} {lo : Int} {n : Nat} : SrcIs K F (rgD lo n) (Itr lo n) := fun F' H' e fh i => by
  have hl : (rgD lo n).length = n := by unfold rgD; rw [List.length_map, List.length_range]
  rw [hl]
  refine ⟨fun hi => ⟨hi, fun x H'' y => ?_⟩, fun hi => hi⟩
  obtain ⟨rfl, rfl⟩ := y
  refine ⟨F', .int (lo + i), ?_, GV.refl fh, .int _⟩
  unfold rgD
  rw [List.getElem?_map, List.getElem?_range hi]
  rfl
def dRng1 (rs : RA) : RI := fun env Q => rs env fun Rs env1 => ∃ n : Int, Rs = [.val (.int n)] ∧ (-1000000 ≤ n ∧ n ≤ 1000000) ∧ Q (rgD 0 n.toNat) env1
theorem rs1 {K : PySem.W.Frag} {F : Hp} {σ : St} {ea : Nat → Addr} {R : Rv} {vs : List V} (h : RsAll K F σ ea [R] vs) : ∃ v, vs = [v] ∧ RIs K F σ ea R v := by
  cases h with
  | cons h t => cases t; exact ⟨_, rfl, h⟩
theorem rs2 {K : PySem.W.Frag} {F : Hp} {σ : St} {ea : Nat → Addr} {R R2 : Rv} {vs : List V} (h : RsAll K F σ ea [R, R2] vs) : ∃ v w, vs = [v, w] ∧ RIs K F σ ea R v ∧ RIs K F σ ea R2 w := by
  cases h with
  | cons h t => obtain ⟨w, rfl, h2⟩ := rs1 t; exact ⟨_, _, rfl, h, h2⟩
theorem rs3 {K : PySem.W.Frag} {F : Hp} {σ : St} {ea : Nat → Addr} {R R2 R3 : Rv} {vs : List V} (h : RsAll K F σ ea [R, R2, R3] vs) : ∃ v w u, vs = [v, w, u] ∧ RIs K F σ ea R v ∧ RIs K F σ ea R2 w ∧ RIs K F σ ea R3 u := by
  cases h with
  | cons h t => obtain ⟨w, u, rfl, h2, h3⟩ := rs2 t; exact ⟨_, _, _, rfl, h, h2, h3⟩
theorem ris_int {K : PySem.W.Frag} {F : Hp} {σ : St} {ea : Nat → Addr} {i : Int} {v : V} (h : RIs K F σ ea (.val (.int i)) v) : v = .int i := by
  have h' : Rp K F v (.int i) := h
  cases h'; rfl
theorem di_rng1 {a : Expr} {rs : RA} {p : Pos} (ha : DA X [a] rs) (hm : X.mg "range" = none) (hg : Gl X "range" := by rfl) (hs : starEach [a] X.env = [(false, eval a X.env)] := by rfl) : DI X tg (.Call (.Name "range" p) [a] [] pos) (dRng1 rs) :=
  ⟨PI.imp (pi_range1 hg hm ha.run hs) fun σ H R ⟨G, ea, F, ad, env, S, q⟩ => ⟨G, ea, F, ad, env, S, ha.mono (fun Rs env1 ⟨n, e1, hn, q⟩ vs F1 ad1 H1 g1 S1 r1 => by
    subst e1
    obtain ⟨v, rfl, h⟩ := rs1 r1
    cases ris_int h
    exact ⟨n, rfl, by omega, by omega, q _ F1 ad1 H1 g1 S1 src_rng⟩) q⟩, fun m h' => ha.mono (fun Rs env1 ⟨n, e1, hn, q⟩ => ⟨n, e1, hn, m _ _ q⟩) h'⟩
def dRng2 (rs : RA) : RI := fun env Q => rs env fun Rs env1 => ∃ i j : Int, Rs = [.val (.int i), .val (.int j)] ∧ (-1000000 ≤ i ∧ i ≤ 1000000 ∧ -1000000 ≤ j ∧ j ≤ 1000000) ∧ Q (rgD i (j - i).toNat) env1
theorem di_rng2 {a b : Expr} {rs : RA} {p : Pos} (ha : DA X [a, b] rs) (hm : X.mg "range" = none) (hg : Gl X "range" := by rfl) (hs : starEach [a, b] X.env = [(false, eval a X.env), (false, eval b X.env)] := by rfl) (hs2 : starEach [b] X.env = [(false, eval b X.env)] := by rfl) : DI X tg (.Call (.Name "range" p) [a, b] [] pos) (dRng2 rs) :=
  ⟨PI.imp (pi_range2 hg hm ha.run hs hs2) fun σ H R ⟨G, ea, F, ad, env, S, q⟩ => ⟨G, ea, F, ad, env, S, ha.mono (fun Rs env1 ⟨i, j, e1, hn, q⟩ vs F1 ad1 H1 g1 S1 r1 => by
    subst e1
    obtain ⟨v, w, rfl, h, h2⟩ := rs2 r1
    cases ris_int h
    cases ris_int h2
    exact ⟨i, j, rfl, ⟨by omega, by omega, by omega, by omega⟩, q _ F1 ad1 H1 g1 S1 src_rng⟩) q⟩, fun m h' => ha.mono (fun Rs env1 ⟨i, j, e1, hn, q⟩ => ⟨i, j, e1, hn, m _ _ q⟩) h'⟩
/-! ### for -/
variable {t : Tg} {body : List Stmt} {rb : RS} {ri : RI}
def dLoop (t : Tg) (body : RS) (De : DEnds) : List D → En → Prop
  | [], env => De.nx env
  | d :: ds, env => ∃ env1, tgSet t d env = some env1 ∧ body { nx := dLoop t body De ds, rt := De.rt, bk := De.nx, ct := dLoop t body De ds } env1
def dFor (ri : RI) (t : Tg) (body : RS) : RS := fun De env => ri env fun items env1 => dLoop t body De items env1
theorem dLoop_mono (hb : DSs X body rb) {E E' : DEnds} (l : E.le E') : ∀ (ds : List D) (env : En), dLoop t rb E ds env → dLoop t rb E' ds env
  | [], env, h => l.nx _ h
  | d :: ds, env, ⟨env1, e, h⟩ => ⟨env1, e, hb.mono (D := { nx := dLoop t rb E ds, rt := E.rt, bk := E.nx, ct := dLoop t rb E ds }) (D' := { nx := dLoop t rb E' ds, rt := E'.rt, bk := E'.nx, ct := dLoop t rb E' ds }) ⟨dLoop_mono hb l ds, l.rt, l.nx, dLoop_mono hb l ds⟩ h⟩
theorem ds_for (hc : X.calm = true) (hi : DI X tg l ri) (hg : DG X tg t) (hb : DSs X body rb) (hp : PassesOwn (model X.prog X.w) X.A X.env X.xe := by exact PassesOwn.never)
    (hs : ∀ x, foldedSetIterable l X.env x = pure x := by intro _; rfl) : DS X (.For tg l body [] pos) (dFor ri t rb) :=
  ⟨PS.imp (ps_for hp hc hi.run hg.run hb.run hs) fun Ds σ H ⟨G, ea, F, ad, env, De, S, l, q⟩ => ⟨G, ea, F, ad, env, S, hi.mono (fun items env1 q J F1 ad1 H1 g1 S1 src => by
    refine ⟨fun i m σ' H' => m = items.length - i ∧ i ≤ items.length ∧ ∃ F' ad' env', Grow F1 H1 F' H' ∧ Sat X.K G ea F' ad' env' σ' H' ∧ dLoop t rb De (items.drop i) env',
      ⟨items.length, by simp, Nat.zero_le _, F1, ad1, env1, Grow.refl _ _, S1, q⟩, ?_⟩
    rintro i m σ' H' ⟨rfl, hi, F', ad', env', g', S', q'⟩
    obtain ⟨s1, s2⟩ := src F' H' g'.ex S'.fh i
    by_cases hlt : i < items.length
    · obtain ⟨go, yl⟩ := s1 hlt
      refine .inr ⟨go, fun σ2 H2 => ∃ F2 ad2 env2, Grow F1 H1 F2 H2 ∧ Sat X.K G ea F2 ad2 env2 σ2 H2 ∧ dLoop t rb De (items.drop (i + 1)) env2, fun σ2 H2 ⟨F2, ad2, env2, a, b, c⟩ => ⟨_, by omega, rfl, hlt, F2, ad2, env2, a, b, c⟩, fun x H'' hy => ?_⟩
      obtain ⟨F'', d, hd, gv, rd⟩ := yl x H'' hy
      have e : items.drop i = d :: items.drop (i + 1) := by
        rw [List.drop_eq_getElem_cons hlt]
        rw [List.getElem?_eq_getElem hlt] at hd
        rw [Option.some.inj hd]
      rw [e] at q'
      obtain ⟨env2, e2, q2⟩ := q'
      have g2 := g'.trans gv.grow
      refine ⟨G, ea, F'', ad', env', d, env2, S'.gv gv, rd, e2, fun σ2 ad2 S2 _ _ => ⟨G, ea, F'', ad2, env2, _, S2, ?_, q2⟩⟩
      exact ⟨fun env3 σ3 F3 ad3 H3 g3 S3 q3 => ⟨F3, ad3, env3, g2.trans g3, S3, q3⟩, fun env3 σ3 F3 ad3 H3 g3 S3 q3 => l.nx env3 σ3 F3 ad3 H3 ((g1.trans g2).trans g3) S3 q3,
        fun env3 σ3 F3 ad3 H3 g3 S3 q3 => ⟨F3, ad3, env3, g2.trans g3, S3, q3⟩, fun R v env3 σ3 F3 ad3 H3 g3 S3 r3 q3 => l.rt R v env3 σ3 F3 ad3 H3 ((g1.trans g2).trans g3) S3 r3 q3⟩
    · have ei : i = items.length := by omega
      subst ei
      rw [List.drop_length] at q'
      exact .inl ⟨s2 (Nat.le_refl _), l.nx env' σ' F' ad' H' (g1.trans g') S' q'⟩) q⟩,
   fun l h => hi.mono (fun items env1 q => dLoop_mono hb l items env1 q) h⟩
/-! ### while -/
def dWhile (c : RT) (body : RS) : RS := fun De env => ∃ W : Nat → En → Prop, (∃ m, W m env) ∧ ∀ m env, W m env → c env fun b env1 =>
  (b = true → body { nx := fun e => ∃ m', m' < m ∧ W m' e, rt := De.rt, bk := De.nx, ct := fun e => ∃ m', m' < m ∧ W m' e } env1) ∧ (b = false → De.nx env1)
theorem ds_while {c : Expr} {rc : RT} (hc : DT X c rc) (hb : DSs X body rb) (hp : PassesOwn (model X.prog X.w) X.A X.env X.xe := by exact PassesOwn.never) : DS X (.While c body [] pos) (dWhile rc rb) :=
  ⟨PS.imp (ps_while hp hc.run hb.run) fun Ds σ H ⟨G, ea, F, ad, env, De, S, l, W, ⟨m0, h0⟩, hW⟩ => by
    refine ⟨fun m σ' H' => ∃ F' ad' env', Grow F H F' H' ∧ Sat X.K G ea F' ad' env' σ' H' ∧ W m env', ⟨m0, F, ad, env, Grow.refl _ _, S, h0⟩, ?_⟩
    rintro m σ' H' ⟨F', ad', env', g', S', w⟩
    refine ⟨G, ea, F', ad', env', S', hc.mono (fun b env1 ⟨q1, q2⟩ F1 ad1 H1 g1 S1 => ?_) (hW m env' w)⟩
    cases b with
    | true =>
      rw [if_pos rfl]
      refine ⟨fun σ2 H2 => ∃ m', m' < m ∧ ∃ F2 ad2 env2, Grow F H F2 H2 ∧ Sat X.K G ea F2 ad2 env2 σ2 H2 ∧ W m' env2, fun σ2 H2 ⟨m', lt, z⟩ => ⟨m', lt, z⟩, G, ea, F1, ad1, env1, _, S1, ?_, q1 rfl⟩
      have g2 := g'.trans g1
      exact ⟨fun env3 σ3 F3 ad3 H3 g3 S3 ⟨m', lt, q3⟩ => ⟨m', lt, F3, ad3, env3, g2.trans g3, S3, q3⟩, fun env3 σ3 F3 ad3 H3 g3 S3 q3 => l.nx env3 σ3 F3 ad3 H3 (g2.trans g3) S3 q3,
        fun env3 σ3 F3 ad3 H3 g3 S3 ⟨m', lt, q3⟩ => ⟨m', lt, F3, ad3, env3, g2.trans g3, S3, q3⟩, fun R v env3 σ3 F3 ad3 H3 g3 S3 r3 q3 => l.rt R v env3 σ3 F3 ad3 H3 (g2.trans g3) S3 r3 q3⟩
    | false =>
      rw [if_neg Bool.false_ne_true]
      exact l.nx env1 σ' F1 ad1 H1 (g'.trans g1) S1 (q2 rfl),
   fun {D D' env0} l ⟨W, h0, hW⟩ => ⟨W, h0, fun m env w => hc.mono (fun b env1 ⟨q1, q2⟩ => ⟨fun z => hb.mono (D := { nx := fun e => ∃ m', m' < m ∧ W m' e, rt := D.rt, bk := D.nx, ct := fun e => ∃ m', m' < m ∧ W m' e }) (D' := { nx := fun e => ∃ m', m' < m ∧ W m' e, rt := D'.rt, bk := D'.nx, ct := fun e => ∃ m', m' < m ∧ W m' e }) ⟨fun _ h => h, l.rt, l.nx, fun _ h => h⟩ (q1 z), fun z => l.nx _ (q2 z)⟩) (hW m env w)⟩⟩
end
/-! ### comprehensions -/
def wipeL (l : List Sl) : List Nat → List Sl
  | [] => l
  | v :: vs => (wipeL l vs).set v .un
def En.wipe (env : En) (vs : List Nat) : En := ⟨wipeL env.sl vs, env.xt⟩
theorem Sat.setUn {K : PySem.W.Frag} {G : Hp} {ea : Nat → Addr} {F : Hp} {ad : Nat → Addr} {env : En} {σ : St} {H : Hp} (S : Sat K G ea F ad env σ H) (i : Nat) : Sat K G ea F ad (env.set i .un) (σ.set i none) H where
  fh := S.fh
  gh := S.gh
  len := by show (σ.set i _).length = (env.sl.set i _).length; rw [List.length_set, List.length_set]; exact S.len
  val := fun j d' h => by
    rcases get_set h with ⟨rfl, hl, e⟩ | ⟨ne, h⟩
    · cases e
    · rw [List.getElem?_set_ne (Ne.symm ne)]; exact S.val j d' h
  mus := fun j m h => by
    rcases get_set h with ⟨rfl, hl, e⟩ | ⟨ne, h⟩
    · cases e
    · rw [List.getElem?_set_ne (Ne.symm ne)]; exact S.mus j m h
  ext := fun j m h => by
    rcases get_set h with ⟨rfl, hl, e⟩ | ⟨ne, h⟩
    · cases e
    · rw [List.getElem?_set_ne (Ne.symm ne)]; exact S.ext j m h
  scr := fun j m h => by
    rcases get_set h with ⟨rfl, hl, e⟩ | ⟨ne, h⟩
    · cases e
    · rw [List.getElem?_set_ne (Ne.symm ne)]; exact S.scr j m h
  xts := S.xts
  dmm := fun a b ma mb ha hb ne => by
    rcases get_set ha with ⟨_, _, e⟩ | ⟨_, ha⟩
    · cases e
    · rcases get_set hb with ⟨_, _, e⟩ | ⟨_, hb⟩
      · cases e
      · exact S.dmm a b ma mb ha hb ne
  dmx := fun a ma k mk ha hk => by
    rcases get_set ha with ⟨_, _, e⟩ | ⟨_, ha⟩
    · cases e
    · exact S.dmx a ma k mk ha hk
  dxx := S.dxx
theorem Sat.wipe {K : PySem.W.Frag} {G : Hp} {ea : Nat → Addr} {F : Hp} {ad : Nat → Addr} {env : En} {σ : St} {H : Hp} (S : Sat K G ea F ad env σ H) : ∀ vs : List Nat, Sat K G ea F ad (env.wipe vs) (L2.wipe σ vs) H
  | [] => S
  | v :: vs => (S.wipe vs).setUn v
theorem wipeL_len (l : List Sl) : ∀ vs, (wipeL l vs).length = l.length
  | [] => rfl
  | v :: vs => by unfold wipeL; rw [List.length_set, wipeL_len l vs]
theorem wipeL_out {l : List Sl} {j : Nat} : ∀ {vs : List Nat}, j ∉ vs → (wipeL l vs)[j]? = l[j]?
  | [], _ => rfl
  | v :: vs, h => by
    rw [List.mem_cons, not_or] at h
    unfold wipeL
    rw [List.getElem?_set_ne (Ne.symm h.1), wipeL_out h.2]
theorem wipe_ext {σ σ' : St} : ∀ {vs : List Nat}, σ'.length = σ.length → (∀ j, j ∉ vs → σ'[j]? = σ[j]?) → L2.wipe σ' vs = L2.wipe σ vs := fun {vs} hl h => by
  have key : ∀ (vs : List Nat) (σ : St) (j : Nat), (L2.wipe σ vs)[j]? = if j ∈ vs ∧ j < σ.length then some none else σ[j]? := by
    intro vs
    induction vs with
    | nil => intro σ j; simp [L2.wipe]
    | cons v vs ih =>
      intro σ j
      show ((L2.wipe σ vs).set v none)[j]? = _
      rw [List.getElem?_set, L2.wipe_length]
      by_cases e : v = j
      · subst e
        by_cases hj : v < σ.length
        · simp [hj]
        · simp [hj]
      · rw [if_neg e, ih]
        have : (j ∈ v :: vs) ↔ j ∈ vs := by rw [List.mem_cons]; exact ⟨fun z => z.elim (fun z => absurd z.symm e) id, .inr⟩
        simp only [this]
  apply List.ext_getElem?
  intro j
  rw [key, key, hl]
  by_cases c : j ∈ vs
  · by_cases d : j < σ.length
    · rw [if_pos ⟨c, d⟩, if_pos ⟨c, d⟩]
    · rw [if_neg (fun z => d z.2), if_neg (fun z => d z.2), List.getElem?_eq_none (by omega), List.getElem?_eq_none (by omega)]
  · rw [if_neg (fun z => c z.1), if_neg (fun z => c z.1)]; exact h j c
/-- the block's names hold nothing that changes -/
def noMu (l : List Sl) (vs : List Nat) : Bool := vs.all fun i => match l[i]? with
  | some (.mu _) => false
  | _ => true
/-- one turn after another: the new list so far -/
def dLcGo (t : Tg) (tt : RT) (te : RE) (vs : List Nat) (Q : List D → En → Prop) : List D → List D → En → Prop
  | [], acc, env => Q acc env
  | d :: ds, acc, env => ∃ env1, tgSet t d (env.wipe vs) = some env1 ∧ tt env1 fun b env2 => (env2.sl = env1.sl) ∧
      (b = true → te env2 fun R env3 => ∃ d', R = .val d' ∧ env3.sl = env1.sl ∧ acc.length < 10000 ∧ dLcGo t tt te vs Q ds (acc ++ [d']) ⟨env.sl, env3.xt⟩) ∧
      (b = false → dLcGo t tt te vs Q ds acc ⟨env.sl, env2.xt⟩)
def dLc (ri : RI) (t : Tg) (tt : RT) (te : RE) (vs : List Nat) : RN := fun env Q => ri env fun items env1 => noMu env1.sl vs = true ∧ dLcGo t tt te vs (fun acc env => Q (.lst acc) env) items [] env1
theorem dLcGo_mono {t : Tg} {tt : RT} {te : RE} {vs : List Nat} (ht : ∀ env Q Q', (∀ b env', Q b env' → Q' b env') → tt env Q → tt env Q') (he : ∀ env Q Q', (∀ R env', Q R env' → Q' R env') → te env Q → te env Q') {Q Q' : List D → En → Prop} (m : ∀ a e, Q a e → Q' a e) :
    ∀ (ds acc : List D) (env : En), dLcGo t tt te vs Q ds acc env → dLcGo t tt te vs Q' ds acc env
  | [], acc, env, h => m _ _ h
  | d :: ds, acc, env, ⟨env1, e, h⟩ => ⟨env1, e, ht _ _ _ (fun b env2 ⟨e2, h1, h2⟩ => ⟨e2, fun z => he _ _ _ (fun R env3 ⟨d', e3, e4, hl, h3⟩ => ⟨d', e3, e4, hl, dLcGo_mono ht he m ds _ _ h3⟩) (h1 z), fun z => dLcGo_mono ht he m ds _ _ (h2 z)⟩) h⟩
structure DTs (X : Cx) (ifs : List Expr) (r : RT) : Prop where
  run : PTs X ifs (liftT X.K r)
  mono : ∀ {env Q Q'}, (∀ b env', Q b env' → Q' b env') → r env Q → r env Q'
theorem PTs.imp {X : Cx} {e : List Expr} {t t' : TT} (h : PTs X e t) (i : ∀ σ H Q, t' σ H Q → t σ H Q) : PTs X e t' := ⟨fun pins s σ H Q I q => h.run pins s σ H Q I (i σ H Q q)⟩
def dYes : RT := fun env Q => Q true env
theorem dts_nil {X : Cx} : DTs X [] dYes := ⟨PTs.imp pts_nil fun σ H Q ⟨G, ea, F, ad, env, S, q⟩ => q F ad H (Grow.refl _ _) S, fun m h => m _ _ h⟩
theorem dts_one {X : Cx} {c : Expr} {r : RT} (h : DT X c r) : DTs X [c] r := ⟨pts_one h.run, h.mono⟩
/-- the outer names, behind a turn of a block -/
theorem Sat.back {K : PySem.W.Frag} {G : Hp} {ea : Nat → Addr} {F F' : Hp} {ad ad' : Nat → Addr} {env env' : En} {σ σ' : St} {H H' : Hp} {vs : List Nat} (S : Sat K G ea F ad env σ H) (S' : Sat K G ea F' ad' env' σ' H') (g : Ex F F')
    (nm : noMu env.sl vs = true) (hs : ∀ j, j ∉ vs → env'.sl[j]? = env.sl[j]?) (hσ : ∀ j, j ∉ vs → σ'[j]? = σ[j]?) : Sat K G ea F' ad' ⟨env.sl, env'.xt⟩ σ H' := by
  have out : ∀ (i : Nat) (m : Mu), env.sl[i]? = some (.mu m) → i ∉ vs := fun i m h z => by
    have q := List.all_eq_true.mp nm i z
    rw [h] at q
    cases q
  refine ⟨S'.fh, S'.gh, S.len, fun i d h => ?_, fun i m h => ?_, S.ext, fun i ns h => ?_, S'.xts, fun i j mi mj hi hj ne => ?_, fun i mi k mk hi hk => ?_, S'.dxx⟩
  · obtain ⟨v, h1, h2⟩ := S.val i d h; exact ⟨v, h1, h2.mono g⟩
  · have o := out i m h
    have := S'.mus i m (by rw [hs i o]; exact h)
    rw [hσ i o] at this
    exact this
  · obtain ⟨a, h1, h2⟩ := S.scr i ns h
    refine ⟨a, h1, ?_⟩
    rcases h2 with h2 | h2
    · exact Or.inl (ex_rd g h2)
    · exact Or.inr h2
  · exact S'.dmm i j mi mj (by rw [hs i (out i mi hi)]; exact hi) (by rw [hs j (out j mj hj)]; exact hj) ne
  · exact S'.dmx i mi k mk (by rw [hs i (out i mi hi)]; exact hi) hk
theorem wipe_out' {σ : St} {i : Nat} {vs : List Nat} (h : i ∉ vs) : (L2.wipe σ vs)[i]? = σ[i]? := L2.wipe_out h
section
variable {X : Cx}
theorem lc_lift {tg iter : Expr} {ri : RI} {t : Tg} {tt : RT} {te : RE} {vs : List Nat} (hi : DI X tg iter ri) (tm' : ∀ env Q Q', (∀ b env', Q b env' → Q' b env') → tt env Q → tt env Q') (em' : ∀ env Q Q', (∀ R env', Q R env' → Q' R env') → te env Q → te env Q')
    (sub : ∀ i ∈ tgSlots t, i ∈ vs) : ∀ σ H Q, liftN X.K (dLc ri t tt te vs) σ H Q → tLc (liftI X.K ri) (liftG X.K t) (liftT X.K tt) (liftE X.K te) vs σ H Q := by
  rintro σ H Q ⟨G, ea, F, ad, env, S, q⟩
  refine ⟨G, ea, F, ad, env, S, hi.mono (fun items env1 ⟨nm, q⟩ J F1 ad1 H1 g1 S1 src => ?_) q⟩
  intro Dl hDl
  -- the new list is none of what stands still
  refine ⟨fun i m H' => m = items.length - i ∧ i ≤ items.length ∧ ∃ acc F' ad' xt, Grow F1 H1 F' H' ∧ Sat X.K G ea F' ad' ⟨env1.sl, xt⟩ σ H' ∧ Fresh X.K G ea F' ad' ⟨env1.sl, xt⟩ H1 H' Dl (.lst acc) ∧
      dLcGo t tt te (vs) (fun acc env => ∀ (p : Addr) (F' : Hp) (ad' : Nat → Addr) (H' : Hp), Grow F H F' H' → Sat X.K G ea F' ad' env σ H' → Fresh X.K G ea F' ad' env H H' p (.lst acc) → Q (.ref p) H') (items.drop i) acc ⟨env1.sl, xt⟩,
    ⟨items.length, by simp, Nat.zero_le _, [], F1, ad1, env1.xt, Grow.newM hDl, S1.newM hDl, S1.fresh hDl (fun _ h => h) ⟨[], upd_same, .nil⟩, q⟩, ?_⟩
  rintro i m H' ⟨rfl, hi', acc, F', ad', xt, g', S', fr, q'⟩
  obtain ⟨s1, s2⟩ := src F' H' g'.ex S'.fh i
  by_cases hlt : i < items.length
  · obtain ⟨go, yl⟩ := s1 hlt
    refine .inr ⟨go, fun H2 => ∃ acc F' ad' xt, Grow F1 H1 F' H2 ∧ Sat X.K G ea F' ad' ⟨env1.sl, xt⟩ σ H2 ∧ Fresh X.K G ea F' ad' ⟨env1.sl, xt⟩ H1 H2 Dl (.lst acc) ∧
      dLcGo t tt te (vs) (fun acc env => ∀ (p : Addr) (F' : Hp) (ad' : Nat → Addr) (H' : Hp), Grow F H F' H' → Sat X.K G ea F' ad' env σ H' → Fresh X.K G ea F' ad' env H H' p (.lst acc) → Q (.ref p) H') (items.drop (i + 1)) acc ⟨env1.sl, xt⟩,
      fun H2 z => ⟨_, by omega, rfl, hlt, z⟩, fun x H'' hy => ?_⟩
    obtain ⟨F'', d, hd, gv, rd⟩ := yl x H'' hy
    have e : items.drop i = d :: items.drop (i + 1) := by
      rw [List.drop_eq_getElem_cons hlt]
      rw [List.getElem?_eq_getElem hlt] at hd
      rw [Option.some.inj hd]
    rw [e] at q'
    obtain ⟨env2, e2, q2⟩ := q'
    obtain ⟨k1, k2, k3⟩ := tgSet_keep e2
    have S'' := S'.gv gv
    obtain ⟨xs0, hx0, rx0⟩ := fr.is
    have hD'' : H'' Dl = some (.lst xs0) := gv.eh _ _ hx0
    have fr'' : F'' Dl = none := by rw [gv.fr Dl (by rw [hx0]; exact fun z => nomatch z)]; exact fr.f
    -- what the frame keeps grows by the new list while the turn runs
    have hout : ∀ j, j ∉ vs → env2.sl[j]? = env1.sl[j]? := fun j hj => by
      rw [k3 j (fun z => hj (sub j z))]
      exact wipeL_out hj
    refine ⟨upd G Dl (.lst xs0), ea, F'', ad', (En.wipe ⟨env1.sl, xt⟩ (vs)), d, env2, (S''.keep hD'' fr.am fr.ax).wipe _, rd, e2, fun σ2 ad2 S2 l2 kk2 => ?_⟩
    have hσ2 : ∀ j, j ∉ vs → σ2[j]? = σ[j]? := fun j hj => by rw [kk2 j (fun z => hj (sub j z)), wipe_out' hj]
    refine ⟨wipe_ext (by rw [l2, L2.wipe_length]) hσ2, upd G Dl (.lst xs0), ea, F'', ad2, env2, S2, tm' _ _ _ (fun b env3 ⟨e3, q3, q4⟩ F3 ad3 H3 g3 S3 => ?_) q2⟩
    cases b with
    | true =>
      rw [if_pos rfl]
      refine ⟨upd G Dl (.lst xs0), ea, F3, ad3, env3, S3, em' _ _ _ (fun R env4 ⟨d', eR, e4, hl, q5⟩ v F4 ad4 H4 g4 S4 r4 => ?_) (q3 rfl)⟩
      subst eR
      have hD4 : H4 Dl = some (.lst xs0) := S4.gh _ _ upd_same
      have g34 := (gv.grow.trans g3).trans g4
      have S5 : Sat X.K G ea F4 ad4 ⟨env1.sl, env4.xt⟩ σ H4 := S''.back (S4.unkeep fr.g) ((g3.trans g4).ex) nm (fun j hj => by rw [e4]; exact hout j hj) hσ2
      have rx4 : RpAll X.K F4 xs0 acc := rx0.mono g34.ex
      have f4 : F4 Dl = none := by rw [g34.fr Dl (by rw [hx0]; exact fun z => nomatch z)]; exact fr.f
      have am4 : ∀ (j : Nat) (mj : Mu), env1.sl[j]? = some (.mu mj) → ad4 j ≠ Dl := fun j mj h z => by
        have hj : j ∉ vs := fun z => by
          have q := List.all_eq_true.mp nm j z
          rw [h] at q; cases q
        have := (S4.mus j mj (by rw [e4, hout j hj]; exact h)).2.2.2
        rw [z, upd_same] at this; cases this
      have ax4 : ∀ (k : Nat) (mk : Mu), env4.xt[k]? = some mk → ea k ≠ Dl := fun k mk h z => by
        have := (S4.xts k mk h).2.2
        rw [z, upd_same] at this; cases this
      refine ⟨xs0, hD4, by rw [rx4.len]; exact Nat.lt_of_lt_of_le hl (by decide), acc ++ [d'], F4, ad4, env4.xt, ?_, ?_, ?_, q5⟩
      · have := g'.trans g34
        refine ⟨this.ex, this.fr, fun a ha => ?_⟩
        by_cases z : a = Dl
        · rw [z, upd_same]; exact fun z => nomatch z
        · rw [upd_ne z]; exact this.dom a ha
      · have ne : ∀ a, a ≠ Dl → upd H4 Dl (.lst (xs0 ++ [v])) a = H4 a := fun a h => upd_ne h
        refine ⟨ex_mut S5.fh f4, ex_mut S5.gh fr.g, S5.len, S5.val, fun i m h => ?_, S5.ext, S5.scr, fun k m h => ?_, S5.dmm, S5.dmx, S5.dxx⟩
        · obtain ⟨h1, h2, h3, h4⟩ := S5.mus i m h
          exact ⟨h1, h2.grow (Ex.refl _) (ne _ (am4 i m h)), h3, h4⟩
        · obtain ⟨h2, h3, h4⟩ := S5.xts k m h
          exact ⟨h2.grow (Ex.refl _) (ne _ (ax4 k m h)), h3, h4⟩
      · exact ⟨⟨_, upd_same, rx4.app (.cons r4 .nil)⟩, f4, fr.g, fr.h0, am4, ax4⟩
    | false =>
      rw [if_neg Bool.false_ne_true]
      have hD3 : H3 Dl = some (.lst xs0) := S3.gh _ _ upd_same
      have g33 := gv.grow.trans g3
      have S5 : Sat X.K G ea F3 ad3 ⟨env1.sl, env3.xt⟩ σ H3 := S''.back (S3.unkeep fr.g) g3.ex nm (fun j hj => by rw [e3]; exact hout j hj) hσ2
      have f4 : F3 Dl = none := by rw [g33.fr Dl (by rw [hx0]; exact fun z => nomatch z)]; exact fr.f
      refine ⟨acc, F3, ad3, env3.xt, g'.trans g33, S5, ⟨⟨xs0, hD3, rx0.mono g33.ex⟩, f4, fr.g, fr.h0, fun j mj h z => ?_, fun k mk h z => ?_⟩, q4 rfl⟩
      · have hj : j ∉ vs := fun z => by
          have q := List.all_eq_true.mp nm j z
          rw [h] at q; cases q
        have := (S3.mus j mj (by rw [e3, hout j hj]; exact h)).2.2.2
        rw [z, upd_same] at this; cases this
      · have := (S3.xts k mk h).2.2
        rw [z, upd_same] at this; cases this
  · have ei : i = items.length := by omega
    subst ei
    rw [List.drop_length] at q'
    have gg := g1.trans g'
    exact .inl ⟨s2 (Nat.le_refl _), q' Dl F' ad' H' gg S' (fr.weak g1.dom)⟩
section
variable {elt tg iter : Expr} {ifs : List Expr} {scope : Scope} {own : List (Str × Nat)} {pos : Pos} {ri : RI} {t : Tg} {tt : RT} {te : RE}
theorem blk_monoT (ht : ∀ (s : Shared) (H : Hp) (C : Addr) (cl : List (Str × Addr)) (fp : List Addr), DTs (X.blk s H scope (compEnvC scope cl C X.env) fp) ifs tt) : ∀ env Q Q', (∀ b env', Q b env' → Q' b env') → tt env Q → tt env Q' := fun env Q Q' m h => (ht {} (fun _ => none) 0 [] []).mono m h
theorem blk_monoE (he : ∀ (s : Shared) (H : Hp) (C : Addr) (cl : List (Str × Addr)) (fp : List Addr), DE (X.blk s H scope (compEnvC scope cl C X.env) fp) elt te) : ∀ env Q Q', (∀ R env', Q R env' → Q' R env') → te env Q → te env Q' := fun env Q Q' m h => (he {} (fun _ => none) 0 [] []).mono m h
theorem dLc_mono {vs : List Nat} (hi : DI X tg iter ri) (tm' : ∀ env Q Q', (∀ b env', Q b env' → Q' b env') → tt env Q → tt env Q') (em' : ∀ env Q Q', (∀ R env', Q R env' → Q' R env') → te env Q → te env Q') {env : En} {Q Q' : Mu → En → Prop} (m : ∀ a e, Q a e → Q' a e) (h : dLc ri t tt te vs env Q) : dLc ri t tt te vs env Q' :=
  hi.mono (fun items env1 ⟨a, q⟩ => ⟨a, dLcGo_mono tm' em' (fun acc e q => m _ _ q) items _ _ q⟩) h
theorem dn_lc (hc : X.calm = true) (hN : X.N.Nodup) (hi : DI X tg iter ri) (ok : BlkOk X.N X.env.scope scope own)
    (hg : ∀ (s : Shared) (H : Hp) (C : Addr) (cl : List (Str × Addr)) (fp : List Addr), DG (X.blk s H scope (compEnvC scope cl C X.env) fp) tg t) (ht : ∀ (s : Shared) (H : Hp) (C : Addr) (cl : List (Str × Addr)) (fp : List Addr), DTs (X.blk s H scope (compEnvC scope cl C X.env) fp) ifs tt)
    (he : ∀ (s : Shared) (H : Hp) (C : Addr) (cl : List (Str × Addr)) (fp : List Addr), DE (X.blk s H scope (compEnvC scope cl C X.env) fp) elt te) (sub : ∀ i ∈ tgSlots t, i ∈ own.map (·.2) := by decide) (hs : ∀ x, foldedSetIterable iter X.env x = pure x := by intro _; rfl) :
    DN X (.ListComp elt [⟨tg, iter, ifs, 0⟩] scope pos) (dLc ri t tt te (own.map (·.2))) :=
  ⟨PE.imp (pe_lc hc hN hi.run ok (te := liftE X.K te) (tt := liftT X.K tt) (g := liftG X.K t) (fun s H C cl fp => (hg s H C cl fp).run) (fun s H C cl fp => (ht s H C cl fp).run) (fun s H C cl fp => (he s H C cl fp).run) hs) (lc_lift hi (blk_monoT ht) (blk_monoE he) sub), dLc_mono hi (blk_monoT ht) (blk_monoE he)⟩
/-- x = [..] on one line, x a local -/
def dAsgLc (i : Nat) (rn : RN) : RS := fun D env => rn env fun m env1 => ∃ ds, m = .lst ds ∧ D.nx (env1.set i (.val (.list ds)))
theorem ds_asgLc {i : Nat} {y : Str} {py : Pos} {spos : Pos} (hc : X.calm = true) (hN : X.N.Nodup) (hi : DI X tg iter ri) (ok : BlkOk X.N X.env.scope scope own)
    (hg : ∀ (s : Shared) (H : Hp) (C : Addr) (cl : List (Str × Addr)) (fp : List Addr), DG (X.blk s H scope (compEnvC scope cl C X.env) fp) tg t) (ht : ∀ (s : Shared) (H : Hp) (C : Addr) (cl : List (Str × Addr)) (fp : List Addr), DTs (X.blk s H scope (compEnvC scope cl C X.env) fp) ifs tt)
    (he : ∀ (s : Shared) (H : Hp) (C : Addr) (cl : List (Str × Addr)) (fp : List Addr), DE (X.blk s H scope (compEnvC scope cl C X.env) fp) elt te)
    (hy : X.N[i]? = some y := by rfl) (hyl : X.env.scope.names.lookup y = some .local := by rfl) (hsw : swapsWith (.ListComp elt [⟨tg, iter, ifs, 0⟩] scope pos) (some (.Name y py)) spos.line X.env = pure true := by exact sw_true rfl rfl rfl (by decide +kernel))
    (sub : ∀ i ∈ tgSlots t, i ∈ own.map (·.2) := by decide) (hs : ∀ x, foldedSetIterable iter X.env x = pure x := by intro _; rfl) :
    DS X (.Assign [.Name y py] (.ListComp elt [⟨tg, iter, ifs, 0⟩] scope pos) spos) (dAsgLc i (dLc ri t tt te (own.map (·.2)))) :=
  ⟨PS.imp (ps_setLc hc hN hy hyl hsw hi.run ok (te := liftE X.K te) (tt := liftT X.K tt) (g := liftG X.K t) (fun s H C cl fp => (hg s H C cl fp).run) (fun s H C cl fp => (ht s H C cl fp).run) (fun s H C cl fp => (he s H C cl fp).run) hs) fun D σ H ⟨G, ea, F, ad, env, De, S, l, q⟩ =>
      lc_lift hi (blk_monoT ht) (blk_monoE he) sub σ H _ ⟨G, ea, F, ad, env, S, dLc_mono hi (blk_monoT ht) (blk_monoE he) (fun m env1 ⟨ds, em, q⟩ p F1 ad1 H1 g1 S1 fr => by
        subst em
        obtain ⟨xs, h1, h2⟩ := fr.is
        have e : Ex F1 (upd F1 p (.lst xs)) := Ex.new fr.f
        have nep : ∀ x, H x ≠ none → x ≠ p := fun x hx z => hx (by rw [z]; exact fr.h0)
        exact l.nx _ _ (upd F1 p (.lst xs)) ad1 H1 ⟨g1.ex.trans e, fun x hx => by rw [upd_ne (nep x hx)]; exact g1.fr x hx, g1.dom⟩ ((S1.freeze e (fun x hx => upd_ne hx) (ex_upd S1.fh h1) fr.am fr.ax).setVal (.lst upd_same (h2.mono e))) q) q⟩,
   fun l h => dLc_mono hi (blk_monoT ht) (blk_monoE he) (fun R env1 ⟨ds, e, q⟩ => ⟨ds, e, l.nx _ q⟩) h⟩
/-- .. where x is to change -/
theorem ds_asgLcN {i : Nat} {y : Str} {py : Pos} {spos : Pos} (hc : X.calm = true) (hN : X.N.Nodup) (hi : DI X tg iter ri) (ok : BlkOk X.N X.env.scope scope own)
    (hg : ∀ (s : Shared) (H : Hp) (C : Addr) (cl : List (Str × Addr)) (fp : List Addr), DG (X.blk s H scope (compEnvC scope cl C X.env) fp) tg t) (ht : ∀ (s : Shared) (H : Hp) (C : Addr) (cl : List (Str × Addr)) (fp : List Addr), DTs (X.blk s H scope (compEnvC scope cl C X.env) fp) ifs tt)
    (he : ∀ (s : Shared) (H : Hp) (C : Addr) (cl : List (Str × Addr)) (fp : List Addr), DE (X.blk s H scope (compEnvC scope cl C X.env) fp) elt te)
    (hy : X.N[i]? = some y := by rfl) (hyl : X.env.scope.names.lookup y = some .local := by rfl) (hsw : swapsWith (.ListComp elt [⟨tg, iter, ifs, 0⟩] scope pos) (some (.Name y py)) spos.line X.env = pure true := by exact sw_true rfl rfl rfl (by decide +kernel))
    (sub : ∀ i ∈ tgSlots t, i ∈ own.map (·.2) := by decide) (hs : ∀ x, foldedSetIterable iter X.env x = pure x := by intro _; rfl) :
    DS X (.Assign [.Name y py] (.ListComp elt [⟨tg, iter, ifs, 0⟩] scope pos) spos) (dAsgN i (dLc ri t tt te (own.map (·.2)))) :=
  ⟨PS.imp (ps_setLc hc hN hy hyl hsw hi.run ok (te := liftE X.K te) (tt := liftT X.K tt) (g := liftG X.K t) (fun s H C cl fp => (hg s H C cl fp).run) (fun s H C cl fp => (ht s H C cl fp).run) (fun s H C cl fp => (he s H C cl fp).run) hs) fun D σ H ⟨G, ea, F, ad, env, De, S, l, q⟩ =>
      lc_lift hi (blk_monoT ht) (blk_monoE he) sub σ H _ ⟨G, ea, F, ad, env, S, dLc_mono hi (blk_monoT ht) (blk_monoE he) (fun m env1 q p F1 ad1 H1 g1 S1 fr =>
        l.nx _ _ F1 _ H1 g1 (fr.set S1 i) q) q⟩,
   fun l h => dLc_mono hi (blk_monoT ht) (blk_monoE he) (fun R env1 q => l.nx _ q) h⟩
end
end
end Dl
/-! Dl5: what a def promises, over data; its call. -/
namespace Dl
open PySem L2

inductive Arg where
  | val (d : D)
  | ext (k : Nat)
  | scr (ns : List Int)
def argSl : Arg → Sl
  | .val d => .val d
  | .ext k => .ext k
  | .scr ns => .scr ns
def ArgIs (K : PySem.W.Frag) (F : Hp) (ea : Nat → Addr) : Arg → V → Prop
  | .val d, v => Rp K F v d
  | .ext k, v => v = .ref (ea k)
  | .scr ns, v => ∃ a, v = .ref a ∧ SqL K F a (ns.map V.int)
inductive ArgsAre (K : PySem.W.Frag) (F : Hp) (ea : Nat → Addr) : List Arg → List V → Prop
  | nil : ArgsAre K F ea [] []
  | cons {a v as vs} : ArgIs K F ea a v → ArgsAre K F ea as vs → ArgsAre K F ea (a :: as) (v :: vs)
theorem ArgsAre.len {K : PySem.W.Frag} {F : Hp} {ea : Nat → Addr} : ∀ {as vs}, ArgsAre K F ea as vs → vs.length = as.length
  | _, _, .nil => rfl
  | _, _, .cons _ t => by rw [List.length_cons, List.length_cons, ArgsAre.len t]
theorem ArgsAre.get {K : PySem.W.Frag} {F : Hp} {ea : Nat → Addr} : ∀ {as vs} {i : Nat} {a : Arg}, ArgsAre K F ea as vs → as[i]? = some a → ∃ v, vs[i]? = some v ∧ ArgIs K F ea a v
  | _, _, _, _, .nil, e => by simp at e
  | _, _, 0, _, .cons h _, e => by simp at e; subst e; exact ⟨_, rfl, h⟩
  | _, _, i + 1, a, .cons _ t, e => by
    obtain ⟨v, h1, h2⟩ := ArgsAre.get (i := i) (a := a) t (by simpa using e)
    exact ⟨v, by simpa using h1, h2⟩
abbrev DSpec := List Arg → List Mu → (Res → List Mu → Prop) → Prop
structure ExtOk (K : PySem.W.Frag) (G : Hp) (ea : Nat → Addr) (F H : Hp) (xt : List Mu) : Prop where
  xts : ∀ (k : Nat) (m : Mu), xt[k]? = some m → MuIs K F H (ea k) m ∧ F (ea k) = none ∧ G (ea k) = none
  dxx : ∀ (k l : Nat) (mk ml : Mu), xt[k]? = some mk → xt[l]? = some ml → k ≠ l → ea k ≠ ea l
/-- the promise: n arguments -/
def spD (K : PySem.W.Frag) (n : Nat) (S : DSpec) : Sp := fun vs H Q _ => ∃ G ea F args xt, Ex F H ∧ Ex G H ∧ ArgsAre K F ea args vs ∧ args.length = n ∧ ExtOk K G ea F H xt ∧
  S args xt fun R xt' => ∀ v F' H', Grow F H F' H' → Ex G H' → Ex F' H' → ExtOk K G ea F' H' xt' → ResIs K G ea F' ⟨[], xt'⟩ H' R v → Q v H'
def env0 (args : List Arg) (n : Nat) (xt : List Mu) : En := ⟨args.map argSl ++ List.replicate (n - args.length) .un, xt⟩
theorem sat_start {K : PySem.W.Frag} {G : Hp} {ea : Nat → Addr} {F H : Hp} {args : List Arg} {vs : List V} {xt : List Mu} {N : List Str} (fh : Ex F H) (gh : Ex G H) (ha : ArgsAre K F ea args vs) (hx : ExtOk K G ea F H xt) :
    Sat K G ea F ea (env0 args N.length xt) (L2.start N vs) H := by
  have key : ∀ (i : Nat) (s : Sl), (env0 args N.length xt).sl[i]? = some s → s ≠ .un → ∃ a v, s = argSl a ∧ (L2.start N vs)[i]? = some (some v) ∧ ArgIs K F ea a v := by
    intro i s h ne
    unfold env0 at h
    unfold L2.start
    by_cases hi : i < args.length
    · rw [List.getElem?_append_left (by rw [List.length_map]; exact hi), List.getElem?_map, List.getElem?_eq_getElem hi] at h
      obtain ⟨v, h1, h2⟩ := ha.get (List.getElem?_eq_getElem hi)
      refine ⟨args[i], v, (Option.some.inj h).symm, ?_, h2⟩
      rw [List.getElem?_append_left (by rw [List.length_map, ha.len]; exact hi), List.getElem?_map, h1]
      rfl
    · rw [List.getElem?_append_right (by rw [List.length_map]; omega), List.getElem?_replicate] at h
      split at h
      · exact absurd (Option.some.inj h).symm ne
      · cases h
  refine ⟨fh, gh, ?_, fun i d h => ?_, fun i m h => ?_, fun i k h => ?_, fun i ns h => ?_, hx.xts, fun i j mi mj hi => ?_, fun i mi k mk hi => ?_, hx.dxx⟩
  · unfold L2.start env0
    simp only [List.length_append, List.length_map, List.length_replicate, ha.len]
  · obtain ⟨a, v, e, h1, h2⟩ := key i _ h (fun z => nomatch z)
    cases a <;> cases e
    exact ⟨v, h1, h2⟩
  · obtain ⟨a, v, e, h1, h2⟩ := key i _ h (fun z => nomatch z)
    cases a <;> cases e
  · obtain ⟨a, v, e, h1, h2⟩ := key i _ h (fun z => nomatch z)
    cases a <;> cases e
    have h2' : v = .ref (ea k) := h2
    subst h2'
    exact h1
  · obtain ⟨a, v, e, h1, h2⟩ := key i _ h (fun z => nomatch z)
    cases a <;> cases e
    obtain ⟨b, rfl, h3⟩ := h2
    exact ⟨b, h1, h3⟩
  · obtain ⟨a, v, e, h1, h2⟩ := key i _ hi (fun z => nomatch z)
    cases a <;> cases e
  · obtain ⟨a, v, e, h1, h2⟩ := key i _ hi (fun z => nomatch z)
    cases a <;> cases e
theorem ResIs.xt {K : PySem.W.Frag} {G : Hp} {ea : Nat → Addr} {F H : Hp} {env env' : En} {R : Res} {v : V} (h : ResIs K G ea F env H R v) (e : env.xt = env'.xt) : ResIs K G ea F env' H R v := by
  cases R with
  | val d => exact h
  | new m =>
    obtain ⟨p, h1, h2, h3, h4, h5⟩ := h
    exact ⟨p, h1, h2, h3, h4, fun k mk hk => h5 k mk (by rw [e]; exact hk)⟩
/-- THE RULE for a def: by its body's reading -/
theorem fn_d {P : Program} {w : World} {K : PySem.W.Frag} {mg : Str → Option Value} {base : Heap} {x qual : Str} {st : Stmt} {f : Addr} {fd : FuncData} {N ps : List Str} {k : Nat} {S : DSpec} (Fn : Fun K x qual st f fd) (sc : FnScope N ps (defScope st))
    (hbody : ∀ (cdv : Value) (A : Around) (outer : List Env) (s : Shared) (H : Hp) (E : XK), Room k (A.deeper (PyProof.Rows.envOfC qual (defScope st) s.heap.objs.size f cdv)) →
      ∃ r, DSs (cxOf CX0 P w K mg base N qual (defScope st) f cdv A outer s H E).nox (defBody st) r ∧
        ∀ (args : List Arg) (xt : List Mu) (Q : Res → List Mu → Prop), args.length = ps.length → S args xt Q → r { nx := fun e => Q (.val .none) e.xt, rt := fun R e => Q R e.xt } (env0 args N.length xt)) :
    FnOk P w K mg base CX0 (k + 1) f fd ps (spD K ps.length S) := by
  refine Fn.ok sc (fun vs H Q E h => ?_) (fun cdv A outer s H vs Q E hr h => ?_)
  · obtain ⟨G, ea, F, args, xt, _, _, ha, hl, _⟩ := h
    rw [ha.len, hl]
  · obtain ⟨G, ea, F, args, xt, fh, gh, ha, hl, hx, q⟩ := h
    obtain ⟨r, hr1, hr2⟩ := hbody cdv A outer s H E hr
    refine ⟨_, hr1.run, G, ea, F, ea, env0 args N.length xt, _, sat_start fh gh ha hx, ?_, hr2 args xt _ hl q⟩
    refine ⟨fun env σ F' ad H' g S' h => ?_, fun _ _ _ _ _ _ _ h => h.elim, fun _ _ _ _ _ _ _ h => h.elim, fun R v env σ F' ad H' g S' r h => ?_⟩
    · exact h .non F' H' g S'.gh S'.fh ⟨S'.xts, S'.dxx⟩ .non
    · exact h v F' H' g S'.gh S'.fh ⟨S'.xts, S'.dxx⟩ (r.xt rfl)

/-- a promise over data, with its order -/
structure DSp where
  run : DSpec
  mono : ∀ {args xt Q Q'}, (∀ R x, Q R x → Q' R x) → run args xt Q → run args xt Q'
/-! ### a call -/
inductive Ob where
  | ext (k : Nat)
  | slot (i : Nat)
  deriving DecidableEq
def Ob.get (env : En) : Ob → Option Mu
  | .ext k => env.xt[k]?
  | .slot i => (env.sl[i]?).bind slMu
def Ob.put (env : En) (m : Mu) : Ob → En
  | .ext k => ⟨env.sl, env.xt.set k m⟩
  | .slot i => ⟨env.sl.set i (.mu m), env.xt⟩
def Ob.addr (ea ad : Nat → Addr) : Ob → Addr
  | .ext k => ea k
  | .slot i => ad i
def rvOb : Rv → Option Ob
  | .val _ => none
  | .slot i => some (.slot i)
  | .ext k => some (.ext k)
/-- an argument that the callee may not change: data; the script; a list that is lent -/
def argSlot : Sl → Nat → Option (Arg × List Ob)
  | .mu (.lst ds), i => some (.val (.list ds), [.slot i])
  | .scr ns, _ => some (.scr ns, [])
  | _, _ => none
def argExt : Mu → Nat → Option (Arg × List Ob)
  | .lst ds, k => some (.val (.list ds), [.ext k])
  | _, _ => none
def argOf (env : En) : Rv → Option (Arg × List Ob)
  | .val d => some (.val d, [])
  | .slot i => (env.sl[i]?).bind fun s => argSlot s i
  | .ext k => (env.xt[k]?).bind fun m => argExt m k
/-- the arguments, the thing that the callee may change (by md), what is lent -/
def conv (env : En) : List Bool → List Rv → Option (List Arg × List Ob × List Ob)
  | _, [] => some ([], [], [])
  | true :: md, R :: Rs => (rvOb R).bind fun o => (conv env md Rs).bind fun (as, os, l) => if os = [] then some (.ext 0 :: as, [o], l) else none
  | false :: md, R :: Rs => (argOf env R).bind fun (a, l1) => (conv env md Rs).bind fun (as, os, l) => some (a :: as, os, l1 ++ l)
  | [], R :: Rs => (argOf env R).bind fun (a, l1) => (conv env [] Rs).bind fun (as, os, l) => some (a :: as, os, l1 ++ l)
def pureMu : Mu → Bool
  | .lst ds => pureAll ds
  | .dK kds => pureAll (kds.map (·.2))
  | .dT kds => pureAll (kds.map (·.2))
def pureRes : Res → Bool
  | .val d => pureD d
  | .new m => pureMu m
def putObs (env : En) : List Ob → List Mu → En
  | [o], [m] => o.put env m
  | _, _ => env
def obsMu (env : En) : List Ob → List Mu
  | [] => []
  | o :: os => match o.get env with
    | some m => m :: obsMu env os
    | none => obsMu env os
section
variable {K : PySem.W.Frag} {G : Hp} {ea : Nat → Addr} {F : Hp} {ad : Nat → Addr} {env : En} {σ : St} {H : Hp}
theorem Sat.ob (S : Sat K G ea F ad env σ H) {o : Ob} {m : Mu} (h : o.get env = some m) : MuIs K F H (o.addr ea ad) m ∧ F (o.addr ea ad) = none ∧ G (o.addr ea ad) = none := by
  cases o with
  | ext k => exact S.xts k m h
  | slot i =>
    have h' : (env.sl[i]?).bind slMu = some m := h
    cases q : env.sl[i]? with
    | none => rw [q] at h'; cases h'
    | some s =>
      rw [q] at h'
      cases s with
      | mu m' => cases h'; exact (S.mus i _ q).2
      | _ => cases h'
theorem Sat.obNe (S : Sat K G ea F ad env σ H) {o o' : Ob} {m m' : Mu} (h : o.get env = some m) (h' : o'.get env = some m') (ne : o ≠ o') : o.addr ea ad ≠ o'.addr ea ad := by
  have sl : ∀ {i : Nat} {m : Mu}, (Ob.slot i).get env = some m → env.sl[i]? = some (.mu m) := fun {i m} h => by
    have h' : (env.sl[i]?).bind slMu = some m := h
    cases q : env.sl[i]? with
    | none => rw [q] at h'; cases h'
    | some s =>
      rw [q] at h'
      cases s with
      | mu m' => cases h'; rfl
      | _ => cases h'
  cases o with
  | ext k =>
    cases o' with
    | ext l => exact S.dxx k l m m' h h' (fun z => ne (by rw [z]))
    | slot j => exact (S.dmx j m' k m (sl h') h).symm
  | slot i =>
    cases o' with
    | ext l => exact S.dmx i m l m' (sl h) h'
    | slot j => exact S.dmm i j m m' (sl h) (sl h') (fun z => ne (by rw [z]))
/-- a result that names a thing is at its address -/
theorem Sat.rvOb (S : Sat K G ea F ad env σ H) {R : Rv} {v : V} {o : Ob} {m : Mu} (r : RIs K F σ ea R v) (e : rvOb R = some o) (h : o.get env = some m) : v = .ref (o.addr ea ad) := by
  cases R with
  | val d => cases e
  | ext k => cases e; exact r
  | slot i =>
    cases e
    have h' : (env.sl[i]?).bind slMu = some m := h
    cases q : env.sl[i]? with
    | none => rw [q] at h'; cases h'
    | some s =>
      rw [q] at h'
      cases s with
      | mu m' =>
        have r' : σ[i]? = some (some v) := r
        rw [(S.mus i _ q).1] at r'
        cases r'
        rfl
      | _ => cases h'
/-- what one lent thing or datum is for the callee -/
theorem Sat.argOf (S : Sat K G ea F ad env σ H) {R : Rv} {v : V} {a : Arg} {l : List Ob} (ea' : Nat → Addr) (Fc : Hp) (r : RIs K F σ ea R v) (e : argOf env R = some (a, l)) (hf : Ex F Fc) (hl : ∀ o ∈ l, ∀ m, o.get env = some m → Fc (o.addr ea ad) = H (o.addr ea ad)) :
    ArgIs K Fc ea' a v ∧ ∀ o ∈ l, ∃ ds, o.get env = some (.lst ds) := by
  cases R with
  | val d => cases e; exact ⟨Rp.mono hf r, by simp⟩
  | slot i =>
    have e' : (env.sl[i]?).bind (fun s => argSlot s i) = some (a, l) := e
    cases q : env.sl[i]? with
    | none => rw [q] at e'; cases e'
    | some s =>
      rw [q] at e'
      have r' : σ[i]? = some (some v) := r
      cases s with
      | mu m =>
        cases m with
        | lst ds =>
          cases e'
          obtain ⟨h1, ⟨xs, h2, h3⟩, _⟩ := S.mus i _ q
          rw [h1] at r'
          cases r'
          have hg : (Ob.slot i).get env = some (.lst ds) := by show (env.sl[i]?).bind slMu = _; rw [q]; rfl
          refine ⟨.lst (by have := hl (.slot i) (by simp) _ hg; rw [show Fc (ad i) = H (ad i) from this]; exact h2) (h3.mono hf), fun o ho => ?_⟩
          rw [List.mem_singleton] at ho
          subst ho
          exact ⟨ds, hg⟩
        | _ => cases e'
      | scr ns =>
        cases e'
        obtain ⟨b, h1, h2⟩ := S.scr i ns q
        rw [h1] at r'
        cases r'
        refine ⟨⟨b, rfl, ?_⟩, by simp⟩
        rcases h2 with h2 | h2
        · exact Or.inl (ex_rd hf h2)
        · exact Or.inr h2
      | _ => cases e'
  | ext k =>
    have e' : (env.xt[k]?).bind (fun m => argExt m k) = some (a, l) := e
    cases q : env.xt[k]? with
    | none => rw [q] at e'; cases e'
    | some m =>
      rw [q] at e'
      have r' : v = .ref (ea k) := r
      subst r'
      cases m with
      | lst ds =>
        cases e'
        obtain ⟨⟨xs, h2, h3⟩, _⟩ := S.xts k _ q
        refine ⟨.lst (by have := hl (.ext k) (by simp) _ q; rw [show Fc (ea k) = H (ea k) from this]; exact h2) (h3.mono hf), fun o ho => ?_⟩
        rw [List.mem_singleton] at ho
        subst ho
        exact ⟨ds, q⟩
      | _ => cases e'
theorem Sat.conv (S : Sat K G ea F ad env σ H) (ea' : Nat → Addr) (Fc : Hp) (hf : Ex F Fc) : ∀ {Rs : List Rv} {md : List Bool} {vs : List V} {as : List Arg} {os l : List Ob}, RsAll K F σ ea Rs vs → conv env md Rs = some (as, os, l) →
    (∀ o ∈ l, ∀ m, o.get env = some m → Fc (o.addr ea ad) = H (o.addr ea ad)) → (∀ o ∈ os, ∃ m, o.get env = some m) → (∀ o ∈ os, ea' 0 = o.addr ea ad) → ArgsAre K Fc ea' as vs ∧ (∀ o ∈ l, ∃ ds, o.get env = some (.lst ds)) ∧ os.length ≤ 1
  | [], md, _, as, os, l, h, e, _, _, _ => by
    cases h
    have e' : some (([] : List Arg), ([] : List Ob), ([] : List Ob)) = some (as, os, l) := by cases md <;> exact e
    cases e'
    exact ⟨.nil, by simp, by simp⟩
  | R :: Rs, md, _, as, os, l, h, e, hl, ho, ha => by
    cases h with
    | @cons _ _ v vs h1 t =>
      have plain : ∀ md', ((Dl.argOf env R).bind fun (a, l1) => (Dl.conv env md' Rs).bind fun (as, os, l) => some (a :: as, os, l1 ++ l)) = some (as, os, l) → ArgsAre K Fc ea' as (v :: vs) ∧ (∀ o ∈ l, ∃ ds, o.get env = some (.lst ds)) ∧ os.length ≤ 1 := by
        intro md' e
        cases q : Dl.argOf env R with
        | none => rw [q] at e; cases e
        | some al =>
          obtain ⟨a, l1⟩ := al
          rw [q] at e
          cases q2 : Dl.conv env md' Rs with
          | none => simp only [Option.bind_some, q2] at e; cases e
          | some z =>
            obtain ⟨as', os', l'⟩ := z
            simp only [Option.bind_some, q2] at e
            cases e
            obtain ⟨b1, b2, b3⟩ := Sat.conv S ea' Fc hf t q2 (fun o h => hl o (List.mem_append_right _ h)) ho ha
            obtain ⟨c1, c2⟩ := S.argOf ea' Fc h1 q hf (fun o h => hl o (List.mem_append_left _ h))
            exact ⟨.cons c1 b1, fun o h => (List.mem_append.mp h).elim (c2 o) (b2 o), b3⟩
      match md, e with
      | [], e => exact plain [] e
      | false :: md, e => exact plain md e
      | true :: md, e =>
        have e' : ((Dl.rvOb R).bind fun o => (Dl.conv env md Rs).bind fun (as, os, l) => if os = [] then some (.ext 0 :: as, [o], l) else none) = some (as, os, l) := e
        cases q : Dl.rvOb R with
        | none => rw [q] at e'; cases e'
        | some o =>
          rw [q] at e'
          cases q2 : Dl.conv env md Rs with
          | none => simp only [Option.bind_some, q2] at e'; cases e'
          | some z =>
            obtain ⟨as', os', l'⟩ := z
            simp only [Option.bind_some, q2] at e'
            split at e'
            · rename_i eo
              cases e'
              subst eo
              obtain ⟨b1, b2, b3⟩ := Sat.conv S ea' Fc hf t q2 hl (by simp) (by simp)
              obtain ⟨m, hm⟩ := ho o (by simp)
              refine ⟨.cons ?_ b1, b2, by simp⟩
              show v = .ref (ea' 0)
              rw [ha o (by simp)]
              exact S.rvOb h1 q hm
            · cases e'
end
/-- an address among those of some things -/
def addrs (ea ad : Nat → Addr) (os : List Ob) : List Addr := os.map (Ob.addr ea ad)
theorem mem_addrs {ea ad : Nat → Addr} {os : List Ob} {a : Addr} : a ∈ addrs ea ad os ↔ ∃ o ∈ os, o.addr ea ad = a := by
  unfold addrs; rw [List.mem_map]
inductive ResF (K : PySem.W.Frag) (G : Hp) (ea : Nat → Addr) (F : Hp) (ad : Nat → Addr) (env : En) (H0 H : Hp) : Res → V → Prop
  | val {d v} : Rp K F v d → ResF K G ea F ad env H0 H (.val d) v
  | new {m p} : Fresh K G ea F ad env H0 H p m → ResF K G ea F ad env H0 H (.new m) (.ref p)
section
variable {K : PySem.W.Frag} {G : Hp} {ea : Nat → Addr} {F : Hp} {ad : Nat → Addr} {env : En} {σ : St} {H : Hp}
theorem MuIs.pureMono {F' : Hp} {a : Addr} (ht : ∀ a xs, SqT K F a xs → SqT K F' a xs) : ∀ {m : Mu}, MuIs K F H a m → pureMu m = true → MuIs K F' H a m
  | .lst _, ⟨xs, h1, h2⟩, c => ⟨xs, h1, h2.pureMono ht c⟩
  | .dK _, ⟨xs, h1, k, h2⟩, c => ⟨xs, h1, k, h2.pureMono ht c⟩
  | .dT _, ⟨xs, h1, k, h2⟩, c => ⟨xs, h1, k, h2.pureMono ht c⟩
theorem obsMu_of (ho : ∀ o ∈ ([] : List Ob), True) : obsMu env [] = [] := rfl
/-- the state behind a call -/
theorem Sat.put (S : Sat K G ea F ad env σ H) {F' H' : Hp} (e1 : Ex F F') (e2 : ∀ a, H a ≠ none → F' a = F a) (fh : Ex F' H') (gh : Ex G H') {o : Ob} {m0 m : Mu} (h0 : o.get env = some m0) (hm : MuIs K F' H' (o.addr ea ad) m)
    (keep : ∀ a, H a ≠ none → a ≠ o.addr ea ad → H' a = H a) : Sat K G ea F' ad (o.put env m) σ H' := by
  have other : ∀ {o' : Ob} {m' : Mu}, o'.get env = some m' → o' ≠ o → MuIs K F' H' (o'.addr ea ad) m' ∧ F' (o'.addr ea ad) = none ∧ G (o'.addr ea ad) = none := fun {o' m'} h ne => by
    obtain ⟨a1, a2, a3⟩ := S.ob h
    exact ⟨a1.grow e1 (keep _ a1.there (S.obNe h h0 ne)), by rw [e2 _ a1.there]; exact a2, a3⟩
  have own : F' (o.addr ea ad) = none ∧ G (o.addr ea ad) = none := by
    obtain ⟨a1, a2, a3⟩ := S.ob h0
    exact ⟨by rw [e2 _ a1.there]; exact a2, a3⟩
  have scr : ∀ (i : Nat) (ns : List Int), env.sl[i]? = some (.scr ns) → ∃ a, σ[i]? = some (some (.ref a)) ∧ SqL K F' a (ns.map V.int) := fun i ns h => by
    obtain ⟨a, h1, h2⟩ := S.scr i ns h
    refine ⟨a, h1, ?_⟩
    rcases h2 with h2 | h2
    · exact Or.inl (ex_rd e1 h2)
    · exact Or.inr h2
  have get : ∀ {i : Nat} {m : Mu}, env.sl[i]? = some (.mu m) → (Ob.slot i).get env = some m := fun {i m} h => by show (env.sl[i]?).bind slMu = _; rw [h]; rfl
  have get' : ∀ {i : Nat} {m : Mu}, (Ob.slot i).get env = some m → env.sl[i]? = some (.mu m) := fun {i m} h => by
    have h' : (env.sl[i]?).bind slMu = some m := h
    cases q : env.sl[i]? with
    | none => rw [q] at h'; cases h'
    | some s =>
      rw [q] at h'
      cases s with
      | mu m' => cases h'; rfl
      | _ => cases h'
  cases o with
  | ext k =>
    refine ⟨fh, gh, S.len, fun i d h => ?_, fun i m' h => ?_, S.ext, scr, fun l m' h => ?_, S.dmm, fun i mi l ml hi hl => ?_, fun a b ma mb ha hb ne => ?_⟩
    · obtain ⟨v, h1, h2⟩ := S.val i d h; exact ⟨v, h1, h2.mono e1⟩
    · exact ⟨(S.mus i m' h).1, other (get h) (fun z => nomatch z)⟩
    · rcases get_set h with ⟨el, _, em⟩ | ⟨ne, h⟩
      · subst el; subst em; exact ⟨hm, own⟩
      · exact other (o' := .ext l) h (fun z => ne (by cases z; rfl))
    · rcases get_set hl with ⟨el, _, _⟩ | ⟨ne, hl⟩
      · subst el; exact S.dmx i mi _ m0 hi h0
      · exact S.dmx i mi l ml hi hl
    · rcases get_set ha with ⟨e, _, _⟩ | ⟨_, ha2⟩
      · rcases get_set hb with ⟨e', _, _⟩ | ⟨_, hb2⟩
        · exact absurd (e.trans e'.symm) ne
        · rw [e] at ne ⊢; exact S.dxx k b m0 mb h0 hb2 ne
      · rcases get_set hb with ⟨e', _, _⟩ | ⟨_, hb2⟩
        · rw [e'] at ne ⊢; exact S.dxx a k ma m0 ha2 h0 ne
        · exact S.dxx a b ma mb ha2 hb2 ne
  | slot i0 =>
    have h0' := get' h0
    refine ⟨fh, gh, ?_, fun i d h => ?_, fun i m' h => ?_, fun i k h => ?_, fun i ns h => ?_, fun l m' h => ?_, fun a b ma mb ha hb ne => ?_, fun i mi l ml hi hl => ?_, S.dxx⟩
    · show σ.length = (env.sl.set i0 _).length; rw [List.length_set]; exact S.len
    · rcases get_set h with ⟨_, _, e⟩ | ⟨_, h⟩
      · cases e
      · obtain ⟨v, h1, h2⟩ := S.val i d h; exact ⟨v, h1, h2.mono e1⟩
    · rcases get_set h with ⟨ei, _, e⟩ | ⟨ne, h⟩
      · cases e; subst ei; exact ⟨(S.mus _ m0 h0').1, hm, own⟩
      · exact ⟨(S.mus i m' h).1, other (get h) (fun z => ne (by cases z; rfl))⟩
    · rcases get_set h with ⟨_, _, e⟩ | ⟨_, h⟩
      · cases e
      · exact S.ext i k h
    · rcases get_set h with ⟨_, _, e⟩ | ⟨_, h⟩
      · cases e
      · exact scr i ns h
    · exact other (o' := .ext l) h (fun z => nomatch z)
    · rcases get_set ha with ⟨e, _, _⟩ | ⟨_, ha2⟩
      · rcases get_set hb with ⟨e', _, _⟩ | ⟨_, hb2⟩
        · exact absurd (e.trans e'.symm) ne
        · rw [e] at ne ⊢; exact S.dmm i0 b m0 mb h0' hb2 ne
      · rcases get_set hb with ⟨e', _, _⟩ | ⟨_, hb2⟩
        · rw [e'] at ne ⊢; exact S.dmm a i0 ma m0 ha2 h0' ne
        · exact S.dmm a b ma mb ha2 hb2 ne
    · rcases get_set hi with ⟨e, _, _⟩ | ⟨_, hi⟩
      · subst e; exact S.dmx _ m0 l ml h0' hl
      · exact S.dmx i mi l ml hi hl
theorem conv_len : ∀ {Rs : List Rv} {md : List Bool} {as : List Arg} {os l : List Ob}, conv env md Rs = some (as, os, l) → os.length ≤ 1 := by
  intro Rs
  induction Rs with
  | nil => intro md as os l c; cases md <;> (cases c; simp)
  | cons R Rs ih =>
    intro md as os l c
    have plain : ∀ md', ((Dl.argOf env R).bind fun (a, l1) => (Dl.conv env md' Rs).bind fun (as, os, l) => some (a :: as, os, l1 ++ l)) = some (as, os, l) → os.length ≤ 1 := by
      intro md' e
      cases q : Dl.argOf env R with
      | none => rw [q] at e; cases e
      | some al =>
        rw [q] at e
        cases q2 : Dl.conv env md' Rs with
        | none => simp only [Option.bind_some, q2] at e; cases e
        | some z =>
          obtain ⟨as', os', l'⟩ := z
          simp only [Option.bind_some, q2] at e
          cases e
          exact ih q2
    match md, c with
    | [], e => exact plain [] e
    | false :: md, e => exact plain md e
    | true :: md, e =>
      have e' : ((Dl.rvOb R).bind fun o => (Dl.conv env md Rs).bind fun (as, os, l) => if os = [] then some (.ext 0 :: as, [o], l) else none) = some (as, os, l) := e
      cases q : Dl.rvOb R with
      | none => rw [q] at e'; cases e'
      | some o =>
        rw [q] at e'
        cases q2 : Dl.conv env md Rs with
        | none => simp only [Option.bind_some, q2] at e'; cases e'
        | some z =>
          obtain ⟨as', os', l'⟩ := z
          simp only [Option.bind_some, q2] at e'
          split at e'
          · cases e'; simp
          · cases e'
def obAddr (ea ad : Nat → Addr) : List Ob → Addr
  | [o] => o.addr ea ad
  | _ => 0
theorem obAddr_mem {ea ad : Nat → Addr} : ∀ {os : List Ob}, os.length ≤ 1 → ∀ o ∈ os, obAddr ea ad os = o.addr ea ad
  | [], _, o, h => by simp at h
  | [o'], _, o, h => by rw [List.mem_singleton] at h; subst h; rfl
  | _ :: _ :: _, h, _, _ => by simp at h
theorem len1_cases {os : List Ob} (h : os.length ≤ 1) : os = [] ∨ ∃ o, os = [o] := by
  match os, h with
  | [], _ => exact .inl rfl
  | [o], _ => exact .inr ⟨o, rfl⟩
theorem obsMu_at {os : List Ob} (h : os.length ≤ 1) (hos : ∀ o ∈ os, ∃ m, o.get env = some m) {k : Nat} {m : Mu} (e : (obsMu env os)[k]? = some m) : k = 0 ∧ ∃ o, os = [o] ∧ o.get env = some m := by
  rcases len1_cases h with rfl | ⟨o, rfl⟩
  · simp [obsMu] at e
  · obtain ⟨m', hm⟩ := hos o (by simp)
    have e' : obsMu env [o] = [m'] := by unfold obsMu; rw [hm]; rfl
    rw [e'] at e
    match k, e with
    | 0, e => cases e; exact ⟨rfl, o, rfl, hm⟩
theorem call_core (S : Sat K G ea F ad env σ H) {Rs : List Rv} {vs : List V} {md : List Bool} {args : List Arg} {os l : List Ob} {n : Nat} (T : DSp) (r1 : RsAll K F σ ea Rs vs) (c : conv env md Rs = some (args, os, l)) (hn : args.length = n)
    (hos : ∀ o ∈ os, ∃ m, o.get env = some m) (dj : ∀ o ∈ os, o ∉ l) {Post : Res → En → Prop} {Q : VK} {E : XK}
    (q : T.run args (obsMu env os) fun R xt' => xt'.length = os.length ∧ (l = [] ∨ (pureRes R = true ∧ xt'.all pureMu = true)) ∧ Post R (putObs env os xt'))
    (k : ∀ R env' v F' H', Post R env' → Grow F H F' H' → Sat K G ea F' ad env' σ H' → ResF K G ea F' ad env' H H' R v → Q v H') : spD K n T.run vs H Q E := by
  have len1 := conv_len c
  have hlst : ∀ o ∈ l, ∃ ds, o.get env = some (.lst ds) := (S.conv (fun _ => obAddr ea ad os) H S.fh r1 c (fun _ _ _ _ => rfl) hos (obAddr_mem len1)).2.1
  let Bs := addrs ea ad l
  let Ms := addrs ea ad os
  let Fc : Hp := fun a => if a ∈ Bs then H a else F a
  let Gc : Hp := fun a => if a ∈ Ms then none else H a
  let ec : Nat → Addr := fun _ => obAddr ea ad os
  have hB : ∀ a ∈ Bs, F a = none ∧ ∃ xs, H a = some (.lst xs) := fun a ha => by
    obtain ⟨o, ho, rfl⟩ := mem_addrs.mp ha
    obtain ⟨ds, hd⟩ := hlst o ho
    obtain ⟨⟨xs, h1, _⟩, h2, _⟩ := S.ob hd
    exact ⟨h2, xs, h1⟩
  have FcB : ∀ a ∈ Bs, Fc a = H a := fun a h => if_pos h
  have FcN : ∀ a, a ∉ Bs → Fc a = F a := fun a h => if_neg h
  have GcN : ∀ a, a ∉ Ms → Gc a = H a := fun a h => if_neg h
  have fFc : Ex F Fc := fun a o h => by
    rw [FcN a (fun z => by have := (hB a z).1; rw [h] at this; cases this)]
    exact h
  have FcH : Ex Fc H := fun a o h => by
    by_cases z : a ∈ Bs
    · rw [FcB a z] at h; exact h
    · rw [FcN a z] at h; exact S.fh a o h
  have GcH : Ex Gc H := fun a o h => by
    by_cases z : a ∈ Ms
    · rw [show Gc a = none from if_pos z] at h; cases h
    · rw [GcN a z] at h; exact h
  obtain ⟨hargs, _, _⟩ := S.conv ec Fc fFc r1 c (fun o ho m hm => FcB _ (mem_addrs.mpr ⟨o, ho, rfl⟩)) hos (obAddr_mem len1)
  have MB : ∀ a ∈ Ms, a ∉ Bs := fun a h1 h2 => by
    obtain ⟨o, ho, rfl⟩ := mem_addrs.mp h1
    obtain ⟨o', ho', e⟩ := mem_addrs.mp h2
    obtain ⟨m, hm⟩ := hos o ho
    obtain ⟨ds, hd⟩ := hlst o' ho'
    refine S.obNe hd hm (fun z => dj o ho (by rw [← z]; exact ho')) e
  have hMs : ∀ a, a ∈ Ms ↔ ∃ o ∈ os, o.addr ea ad = a := fun a => mem_addrs
  have hext : ExtOk K Gc ec Fc H (obsMu env os) := by
    refine ⟨fun k m h => ?_, fun k l mk ml h1 h2 ne => ?_⟩
    · obtain ⟨rfl, o, eo, hm⟩ := obsMu_at len1 hos h
      obtain ⟨a1, a2, a3⟩ := S.ob hm
      have ho : o ∈ os := by rw [eo]; simp
      have e0 : ec 0 = o.addr ea ad := obAddr_mem len1 o ho
      have hM : o.addr ea ad ∈ Ms := (hMs _).mpr ⟨o, ho, rfl⟩
      rw [e0]
      exact ⟨a1.grow fFc rfl, by rw [FcN _ (MB _ hM)]; exact a2, if_pos hM⟩
    · obtain ⟨rfl, _⟩ := obsMu_at len1 hos h1
      obtain ⟨rfl, _⟩ := obsMu_at len1 hos h2
      exact absurd rfl ne
  refine ⟨Gc, ec, Fc, args, obsMu env os, FcH, GcH, hargs, hn, hext, T.mono (fun R xt' ⟨hl, hp, post⟩ v F' H' g gh fh xo rr => ?_) q⟩
  -- what stands still for the caller: what was lent is its own again
  let Fn : Hp := fun a => if a ∈ Bs then none else F' a
  have FnB : ∀ a ∈ Bs, Fn a = none := fun a h => if_pos h
  have FnN : ∀ a, a ∉ Bs → Fn a = F' a := fun a h => if_neg h
  have e1 : Ex F Fn := fun a o h => by
    have nb : a ∉ Bs := fun z => by have := (hB a z).1; rw [h] at this; cases this
    rw [FnN a nb]
    exact g.ex a o (fFc a o h)
  have e2 : ∀ a, H a ≠ none → Fn a = F a := fun a h => by
    by_cases z : a ∈ Bs
    · rw [FnB a z, (hB a z).1]
    · rw [FnN a z, g.fr a h, FcN a z]
  have e3 : Ex Fn H' := fun a o h => by
    by_cases z : a ∈ Bs
    · rw [FnB a z] at h; cases h
    · rw [FnN a z] at h; exact fh a o h
  have tups : ∀ a xs, SqT K F' a xs → SqT K Fn a xs := fun a xs h => by
    rcases h with h | h
    · have nb : a ∉ Bs := fun z => by
        obtain ⟨_, xs', hx⟩ := hB a z
        have : F' a = some (.lst xs') := g.ex a _ (by rw [FcB a z]; exact hx)
        rcases h with h | ⟨o, h⟩
        · rw [this] at h; cases h
        · rw [this] at h; cases h
      rcases h with h | ⟨o, h⟩
      · exact Or.inl (Or.inl (by rw [FnN a nb]; exact h))
      · exact Or.inl (Or.inr ⟨o, by rw [FnN a nb]; exact h⟩)
    · exact Or.inr h
  have Fsame : l = [] → Fn = F' := fun e => by
    funext a
    exact FnN a (by show a ∉ addrs ea ad l; rw [e]; simp [addrs])
  have moveR : ∀ {v : V} {d : D}, Rp K F' v d → (l = [] ∨ pureD d = true) → Rp K Fn v d := fun h c => by
    rcases c with c | c
    · rw [Fsame c]; exact h
    · exact h.pureMono tups c
  have moveM : ∀ {a : Addr} {m : Mu}, MuIs K F' H' a m → (l = [] ∨ pureMu m = true) → MuIs K Fn H' a m := fun h c => by
    rcases c with c | c
    · rw [Fsame c]; exact h
    · exact h.pureMono tups c
  have gh' : Ex G H' := fun a o h => by
    have nm : a ∉ Ms := fun z => by
      obtain ⟨o', ho', rfl⟩ := mem_addrs.mp z
      obtain ⟨m, hm⟩ := hos o' ho'
      have := (S.ob hm).2.2
      rw [h] at this; cases this
    exact gh a o (by rw [GcN a nm]; exact S.gh a o h)
  have gr : Grow F H Fn H' := ⟨e1, e2, g.dom⟩
  have keep : ∀ a, H a ≠ none → a ∉ Ms → H' a = H a := fun a h nm => by
    cases z : H a with
    | none => exact absurd z h
    | some o => exact gh a o (by rw [GcN a nm]; exact z)
  have S' : Sat K G ea Fn ad (putObs env os xt') σ H' := by
    rcases len1_cases len1 with eo | ⟨o, eo⟩
    · have ep : putObs env os xt' = env := by rw [eo]; rfl
      rw [ep]
      refine S.ext' (fun a o h => ?_) e1 e2 e3
      rw [keep a (by rw [h]; exact fun z => nomatch z) (fun z => by obtain ⟨o', ho', _⟩ := (hMs a).mp z; rw [eo] at ho'; simp at ho'), h]
    · have ho : o ∈ os := by rw [eo]; simp
      obtain ⟨m, hm⟩ := hos o ho
      have hl1 : xt'.length = 1 := by rw [hl, eo]; rfl
      match xt', hl1, xo, hp with
      | [m'], _, xo, hp =>
        have ep : putObs env os [m'] = o.put env m' := by rw [eo]; rfl
        rw [ep]
        obtain ⟨b1, b2, b3⟩ := xo.xts 0 m' rfl
        have e0 : ec 0 = o.addr ea ad := obAddr_mem len1 o ho
        rw [e0] at b1
        refine S.put e1 e2 e3 gh' hm (moveM b1 (hp.imp id fun z => by simpa using z.2)) (fun a h ne => keep a h ?_)
        intro z
        obtain ⟨o', ho', e⟩ := (hMs a).mp z
        rw [eo, List.mem_singleton] at ho'
        subst ho'
        exact ne e.symm
  refine k R _ v Fn H' post gr S' ?_
  cases R with
  | val d => exact .val (moveR rr (hp.imp id fun z => z.1))
  | new m =>
    obtain ⟨p, rfl, h2, h3, h4, h5⟩ := rr
    have nB : p ∉ Bs := fun z => by
      obtain ⟨_, xs', hx⟩ := hB p z
      have : F' p = some (.lst xs') := g.ex p _ (by rw [FcB p z]; exact hx)
      rw [h3] at this; cases this
    have nM : p ∉ Ms := fun z => by
      obtain ⟨o', ho', e⟩ := (hMs p).mp z
      have e0 : ec 0 = o'.addr ea ad := obAddr_mem len1 o' ho'
      have hl1 : 0 < xt'.length := by rw [hl]; exact List.length_pos_of_mem ho'
      exact h5 0 xt'[0] (List.getElem?_eq_getElem hl1) (e0.trans e)
    have hp0 : H p = none := by rw [← GcN p nM]; exact h4
    -- what the caller's names hold stood ahead of the call
    have there : ∀ {i : Nat} {mi : Mu}, (putObs env os xt').sl[i]? = some (.mu mi) → ∃ m0, env.sl[i]? = some (.mu m0) := fun {i mi} h => by
      rcases len1_cases len1 with eo | ⟨o, eo⟩
      · rw [show putObs env os xt' = env by rw [eo]; rfl] at h
        exact ⟨mi, h⟩
      · have ho : o ∈ os := by rw [eo]; simp
        obtain ⟨m, hm⟩ := hos o ho
        have hl1 : xt'.length = 1 := by rw [hl, eo]; rfl
        match xt', hl1, h with
        | [m'], _, h =>
          rw [show putObs env os [m'] = o.put env m' by rw [eo]; rfl] at h
          cases o with
          | ext k => exact ⟨mi, h⟩
          | slot i0 =>
            rcases get_set h with ⟨ei, _, _⟩ | ⟨_, h⟩
            · subst ei
              have h' : (env.sl[i]?).bind slMu = some m := hm
              cases q : env.sl[i]? with
              | none => rw [q] at h'; cases h'
              | some s =>
                rw [q] at h'
                cases s with
                | mu m' => exact ⟨m', rfl⟩
                | _ => cases h'
            · exact ⟨mi, h⟩
    have thereX : ∀ {k : Nat} {mk : Mu}, (putObs env os xt').xt[k]? = some mk → ∃ m0, env.xt[k]? = some m0 := fun {k mk} h => by
      rcases len1_cases len1 with eo | ⟨o, eo⟩
      · rw [show putObs env os xt' = env by rw [eo]; rfl] at h
        exact ⟨mk, h⟩
      · have ho : o ∈ os := by rw [eo]; simp
        obtain ⟨m, hm⟩ := hos o ho
        have hl1 : xt'.length = 1 := by rw [hl, eo]; rfl
        match xt', hl1, h with
        | [m'], _, h =>
          rw [show putObs env os [m'] = o.put env m' by rw [eo]; rfl] at h
          cases o with
          | slot k => exact ⟨mk, h⟩
          | ext i0 =>
            rcases get_set h with ⟨ei, _, _⟩ | ⟨_, h⟩
            · subst ei; exact ⟨m, hm⟩
            · exact ⟨mk, h⟩
    refine .new ⟨moveM h2 (hp.imp id fun z => z.1), by rw [FnN p nB]; exact h3, fnone S.gh hp0, hp0, fun i mi hi z => ?_, fun k' mk hk z => ?_⟩
    · obtain ⟨m0, h0⟩ := there hi
      have := (S.mus i m0 h0).2.1.there
      rw [z] at this; exact this hp0
    · obtain ⟨m0, h0⟩ := thereX hk
      have := (S.xts k' m0 h0).1.there
      rw [z] at this; exact this hp0
end
/-! the rules -/
/-- behind the arguments: the call -/
def dCallK (T : DSp) (n : Nat) (md : List Bool) (Post : Res → En → Prop) (Rs : List Rv) (env1 : En) : Prop :=
  ∃ args os l, conv env1 md Rs = some (args, os, l) ∧ args.length = n ∧ (os.all fun o => (o.get env1).isSome && !l.contains o) = true ∧
    T.run args (obsMu env1 os) fun R xt' => xt'.length = os.length ∧ (l = [] ∨ (pureRes R = true ∧ xt'.all pureMu = true)) ∧ Post R (putObs env1 os xt')
theorem dCallK_mono {T : DSp} {n : Nat} {md : List Bool} {P P' : Res → En → Prop} {Rs : List Rv} {env : En} (m : ∀ R e, P R e → P' R e) : dCallK T n md P Rs env → dCallK T n md P' Rs env :=
  fun ⟨args, os, l, a, b, c, q⟩ => ⟨args, os, l, a, b, c, T.mono (fun R xt' ⟨x, y, z⟩ => ⟨x, y, m _ _ z⟩) q⟩
theorem call_run {K : PySem.W.Frag} {G : Hp} {ea : Nat → Addr} {F : Hp} {ad : Nat → Addr} {env : En} {σ : St} {H : Hp} (S : Sat K G ea F ad env σ H) {Rs : List Rv} {vs : List V} {md : List Bool} {n : Nat} (T : DSp) (r1 : RsAll K F σ ea Rs vs) {Post : Res → En → Prop} {Q : VK} {E : XK}
    (q : dCallK T n md Post Rs env)
    (k : ∀ R env' v F' H', Post R env' → Grow F H F' H' → Sat K G ea F' ad env' σ H' → ResF K G ea F' ad env' H H' R v → Q v H') : spD K n T.run vs H Q E := by
  obtain ⟨args, os, l, c, hn, ho, q⟩ := q
  refine call_core S T r1 c hn (fun o h => ?_) (fun o h hl => ?_) q k
  · have := List.all_eq_true.mp ho o h
    rw [Bool.and_eq_true] at this
    exact Option.isSome_iff_exists.mp this.1
  · have := List.all_eq_true.mp ho o h
    rw [Bool.and_eq_true] at this
    have h2 := this.2
    rw [show l.contains o = true from List.contains_iff_mem.mpr hl] at h2
    cases h2
/-- a call's answer as data (a new list is left as it is) -/
def dCall (T : DSp) (n : Nat) (md : List Bool) (rs : RA) : RE := fun env Q => rs env fun Rs env1 => dCallK T n md (fun R env2 => match R with
  | .val d => Q (.val d) env2
  | .new (.lst ds) => Q (.val (.list ds)) env2
  | _ => False) Rs env1
/-- .. as a new thing -/
def dCallN (T : DSp) (n : Nat) (md : List Bool) (rs : RA) : RN := fun env Q => rs env fun Rs env1 => dCallK T n md (fun R env2 => match R with
  | .val _ => False
  | .new m => Q m env2) Rs env1
section
variable {X : Cx} {k : Nat} {f : Addr} {fd : FuncData} {ps : List Str} {x : Str} {p pos : Pos} {e : Expr} {es : List Expr} {rs : RA} {T : DSp} {n : Nat} {md : List Bool}
theorem lift_call (ha : DA X es rs) (σ : St) (H : Hp) (Q : VK) {E : XK} (h : liftE X.K (dCall T n md rs) σ H Q) : tCall (spD X.K n T.run) [] E (liftA X.K rs) σ H Q := by
  obtain ⟨G, ea, F, ad, env, S, q⟩ := h
  refine ⟨G, ea, F, ad, env, S, ha.mono (fun Rs env1 q vs F1 ad1 H1 g1 S1 r1 => ?_) q⟩
  show spD X.K n T.run (vs ++ []) H1 Q E
  rw [List.append_nil]
  refine call_run S1 T r1 q fun R env' v F' H' post g S' rr => ?_
  cases rr with
  | val r => exact post v F' ad1 H' (g1.trans g) S' r
  | @new m p fr =>
    cases m with
    | lst ds =>
      obtain ⟨xs, h1, h2⟩ := fr.is
      have e : Ex F' (upd F' p (.lst xs)) := Ex.new fr.f
      have nep : ∀ x, H1 x ≠ none → x ≠ p := fun x hx z => hx (by rw [z]; exact fr.h0)
      have gg : Grow F1 H1 (upd F' p (.lst xs)) H' := ⟨g.ex.trans e, fun x hx => by rw [upd_ne (nep x hx)]; exact g.fr x hx, g.dom⟩
      exact post (.ref p) (upd F' p (.lst xs)) ad1 H' (g1.trans gg) (S'.freeze e (fun x hx => upd_ne hx) (ex_upd S'.fh h1) fr.am fr.ax) (.lst upd_same (h2.mono e))
    | dK _ => exact post.elim
    | dT _ => exact post.elim
theorem lift_callN (ha : DA X es rs) (σ : St) (H : Hp) (Q : VK) {E : XK} (h : liftN X.K (dCallN T n md rs) σ H Q) : tCall (spD X.K n T.run) [] E (liftA X.K rs) σ H Q := by
  obtain ⟨G, ea, F, ad, env, S, q⟩ := h
  refine ⟨G, ea, F, ad, env, S, ha.mono (fun Rs env1 q vs F1 ad1 H1 g1 S1 r1 => ?_) q⟩
  show spD X.K n T.run (vs ++ []) H1 Q E
  rw [List.append_nil]
  refine call_run S1 T r1 q fun R env' v F' H' post g S' rr => ?_
  cases rr with
  | val r => exact post.elim
  | new fr => exact post _ F' ad1 H' (g1.trans g) S' (fr.weak g1.dom)
theorem dCall_mono (ha : DA X es rs) {env : En} {Q Q' : Rv → En → Prop} (m : ∀ R env', Q R env' → Q' R env') (h : dCall T n md rs env Q) : dCall T n md rs env Q' :=
  ha.mono (fun Rs env1 q => dCallK_mono (fun R e h => by
    cases R with
    | val d => exact m _ _ h
    | new mu => cases mu with
      | lst ds => exact m _ _ h
      | _ => exact h) q) h
theorem dCallN_mono (ha : DA X es rs) {env : En} {Q Q' : Mu → En → Prop} (m : ∀ R env', Q R env' → Q' R env') (h : dCallN T n md rs env Q) : dCallN T n md rs env Q' :=
  ha.mono (fun Rs env1 q => dCallK_mono (fun R e h => by
    cases R with
    | val d => exact h
    | new mu => exact m _ _ h) q) h
/-- f(e, ..) -/
theorem de_call (F : FnOk X.prog X.w X.K X.mg X.base CX0 k f fd ps (spD X.K n T.run)) (hr : Room k X.A) (hm : X.mg x = some (.ref f)) (hk : PySem.W.keepIn X.K (.ref f) = true) (hb : Binds X.K fd ps []) (md : List Bool)
    (ha : DA X (e :: es) rs) (hg : Gl X x := by rfl) (hdb : (x == ("__debug__" : Str)) = false := by decide) (he : starEach (e :: es) X.env = (false, eval e X.env) :: starEach es X.env := by rfl) (hpl : (backTo pos (starEach es X.env)).any (·.1) = false := by rfl) :
    DE X (.Call (.Name x p) (e :: es) [] pos) (dCall T n md rs) :=
  ⟨PE.imp (pe_call F hr hg hm hk hb .nil pass0 ha.run hdb he hpl) fun σ H Q h => lift_call ha σ H Q h, dCall_mono ha⟩
theorem dn_call (F : FnOk X.prog X.w X.K X.mg X.base CX0 k f fd ps (spD X.K n T.run)) (hr : Room k X.A) (hm : X.mg x = some (.ref f)) (hk : PySem.W.keepIn X.K (.ref f) = true) (hb : Binds X.K fd ps []) (md : List Bool)
    (ha : DA X (e :: es) rs) (hg : Gl X x := by rfl) (hdb : (x == ("__debug__" : Str)) = false := by decide) (he : starEach (e :: es) X.env = (false, eval e X.env) :: starEach es X.env := by rfl) (hpl : (backTo pos (starEach es X.env)).any (·.1) = false := by rfl) :
    DN X (.Call (.Name x p) (e :: es) [] pos) (dCallN T n md rs) :=
  ⟨PE.imp (pe_call F hr hg hm hk hb .nil pass0 ha.run hdb he hpl) fun σ H Q h => lift_callN ha σ H Q h, dCallN_mono ha⟩
end
end Dl
/-! Dl6: the operators themselves, over data. -/
namespace Dl
open PySem L2

/-! ### + - * // % -/
theorem OpOk.or {K : PySem.W.Frag} {r r' : R2} {f g : D → D → Option D} (h : OpOk K r f) (h' : OpOk K r' g) : OpOk K (fun x y H Q => r x y H Q ∨ r' x y H Q) (fun a b => (f a b).or (g a b)) :=
  fun F H x y dx dy dz Q fh hx hy e q => by
    have e' : (f dx dy).or (g dx dy) = some dz := e
    cases z : f dx dy with
    | some d => rw [z] at e'; cases e'; exact .inl (h F H x y dx dy _ Q fh hx hy z q)
    | none => rw [z] at e'; exact .inr (h' F H x y dx dy dz Q fh hx hy e' q)
section
variable {X : Cx}
def fII (C : Int → Int → Bool) (g : Int → Int → D) : D → D → Option D
  | .int i, .int j => if C i j = true then some (g i j) else none
  | _, _ => none
theorem ok_II {K : PySem.W.Frag} {P : Int → Int → Prop} {C : Int → Int → Bool} {g : Int → Int → V} {g' : Int → Int → D} (hc : ∀ i j, C i j = true → P i j) (hg : ∀ F i j, Rp K F (g i j) (g' i j)) : OpOk K (rI P g) (fII C g') :=
  fun F H x y dx dy dz Q fh hx hy e q => by
    cases dx <;> cases dy <;> try (cases e; done)
    rename_i i j
    have e' : (if C i j = true then some (g' i j) else none) = some dz := e
    split at e'
    · rename_i hC
      cases e'
      cases hx; cases hy
      exact ⟨i, j, rfl, rfl, hc i j hC, q _ F H (GV.refl fh) (hg F i j)⟩
    · cases e'
theorem ok_II0 {K : PySem.W.Frag} {g : Int → Int → V} {g' : Int → Int → D} (hg : ∀ F i j, Rp K F (g i j) (g' i j)) : OpOk K (rI0 g) (fII (fun _ _ => true) g') :=
  fun F H x y dx dy dz Q fh hx hy e q => by
    cases dx <;> cases dy <;> try (cases e; done)
    cases e
    cases hx; cases hy
    exact ⟨_, _, rfl, rfl, q _ F H (GV.refl fh) (hg F _ _)⟩
def fCatT : D → D → Option D
  | .tuple a, .tuple b => if a.length + b.length ≤ 10000 then some (.tuple (a ++ b)) else none
  | _, _ => none
def fCatL : D → D → Option D
  | .list a, .list b => if a.length + b.length ≤ 10000 then some (.list (a ++ b)) else none
  | _, _ => none
def fCatS : D → D → Option D
  | .str a, .str b => if a.length + b.length ≤ 10000 then some (.str (a ++ b)) else none
  | _, _ => none
theorem ok_catT {K : PySem.W.Frag} : OpOk K (rCatA K) fCatT := fun F H x y dx dy dz Q fh hx hy e q => by
  cases dx <;> cases dy <;> try (cases e; done)
  rename_i a b
  have e' : (if a.length + b.length ≤ 10000 then some (PyData.tuple (a ++ b)) else none) = some dz := e
  split at e'
  · rename_i hl
    cases e'
    cases hx with
    | @tup p xs _ h1 t1 =>
      cases hy with
      | @tup p2 ys _ h2 t2 =>
        have l1 := t1.len
        have l2 := t2.len
        refine ⟨p, p2, xs, ys, rfl, rfl, ex_t fh h1, ex_t fh h2, by rw [l1, l2]; exact line_of hl, fun z => ?_, fun z z2 => ?_, fun z z2 r hr => ?_⟩
        · subst z
          cases t1
          exact q _ F H (GV.refl fh) (.tup h2 t2)
        · subst z2
          cases t2
          rw [List.append_nil] at q
          exact q _ F H (GV.refl fh) (.tup h1 t1)
        · have g := GV.new (o := .tup (xs ++ ys)) fh hr
          exact q _ _ _ g (.tup (Or.inl (Or.inl upd_same)) ((t1.app t2).mono g.ex))
  · cases e'
theorem ok_catL {K : PySem.W.Frag} : OpOk K rCat fCatL := fun F H x y dx dy dz Q fh hx hy e q => by
  cases dx <;> cases dy <;> try (cases e; done)
  rename_i a b
  have e' : (if a.length + b.length ≤ 10000 then some (PyData.list (a ++ b)) else none) = some dz := e
  split at e'
  · rename_i hl
    cases e'
    obtain ⟨p, xs, rfl, h1, t1⟩ := hx
    obtain ⟨p2, ys, rfl, h2, t2⟩ := hy
    refine ⟨p, p2, xs, ys, rfl, rfl, h1, h2, by rw [t1.len, t2.len]; exact line_of hl, fun r hr => ?_⟩
    have g := GV.new (o := .lst (xs ++ ys)) fh hr
    exact q _ _ _ g (.lst upd_same ((t1.app t2).mono g.ex))
  · cases e'
theorem ok_catS {K : PySem.W.Frag} : OpOk K (fun x y H Q => ∃ i j, x = .str i ∧ y = .str j ∧ i.length + j.length ≤ sizeLine ∧ Q (.str (i ++ j)) H) fCatS := fun F H x y dx dy dz Q fh hx hy e q => by
  cases dx <;> cases dy <;> try (cases e; done)
  rename_i a b
  have e' : (if a.length + b.length ≤ 10000 then some (PyData.str (a ++ b)) else none) = some dz := e
  split at e'
  · rename_i hl
    cases e'
    cases hx; cases hy
    exact ⟨_, _, rfl, rfl, line_of hl, q _ F H (GV.refl fh) (.str _)⟩
  · cases e'
def fAdd : D → D → Option D := fun a b => (fII (fun _ _ => true) (fun i j => .int (i + j)) a b).or ((fCatT a b).or ((fCatL a b).or (fCatS a b)))
abbrev rAddU (K : PySem.W.Frag) : R2 := fun x y H Q => rI0 (fun i j => .int (i + j)) x y H Q ∨ (rCatA K x y H Q ∨ (rCat x y H Q ∨ ∃ i j, x = .str i ∧ y = .str j ∧ i.length + j.length ≤ sizeLine ∧ Q (.str (i ++ j)) H))
theorem o_add : OpR X (binaryOp .Add) (rAddU X.K) ∧ OpOk X.K (rAddU X.K) fAdd :=
  ⟨op_add.or (op_catA.or (op_cat.or op_add_str)), (ok_II0 fun _ _ _ => .int _).or (ok_catT.or (ok_catL.or ok_catS))⟩
def fSub : D → D → Option D := fII (fun _ _ => true) fun i j => .int (i - j)
theorem o_sub : OpR X (binaryOp .Sub) (rI0 fun i j => .int (i - j)) ∧ OpOk X.K (rI0 fun i j => .int (i - j)) fSub := ⟨op_sub, ok_II0 fun _ _ _ => .int _⟩
def fMul : D → D → Option D := fII (fun i j => decide ((-(2 ^ 64) < i ∧ i < 2 ^ 64) ∨ (-(2 ^ 64) < j ∧ j < 2 ^ 64))) fun i j => .int (i * j)
theorem o_mul : OpR X (binaryOp .Mult) (rI CMul fun i j => .int (i * j)) ∧ OpOk X.K (rI CMul fun i j => .int (i * j)) fMul := ⟨op_mul, ok_II (fun _ _ h => (of_decide_eq_true h :)) fun _ _ _ => .int _⟩
def fMod : D → D → Option D := fII (fun _ j => decide (0 < j)) fun i j => .int (i % j)
theorem o_mod : OpR X (binaryOp .Mod) (rI (fun _ j => 0 < j) fun i j => .int (i % j)) ∧ OpOk X.K (rI (fun _ j => 0 < j) fun i j => .int (i % j)) fMod := ⟨op_mod, ok_II (fun _ _ h => (of_decide_eq_true h :)) fun _ _ _ => .int _⟩
def fDiv : D → D → Option D := fII (fun _ j => decide (0 < j ∧ j < 1073741824)) fun i j => .int (i / j)
theorem o_div : OpR X (binaryOp .FloorDiv) (rI CDiv fun i j => .int (i / j)) ∧ OpOk X.K (rI CDiv fun i j => .int (i / j)) fDiv := ⟨op_fdiv, ok_II (fun _ _ h => (of_decide_eq_true h :)) fun _ _ _ => .int _⟩
def fPow : D → D → Option D := fII (fun i j => decide (0 ≤ j ∧ j ≤ 1000000 ∧ i.natAbs < 2 ^ 64)) fun i j => .int (i ^ j.toNat)
theorem o_pow : OpR X (binaryOp .Pow) (rI CPow fun i j => .int (i ^ j.toNat)) ∧ OpOk X.K (rI CPow fun i j => .int (i ^ j.toNat)) fPow := ⟨op_pow, ok_II (fun _ _ h => (of_decide_eq_true h :)) fun _ _ _ => .int _⟩
def fShl : D → D → Option D := fII (fun i j => decide (0 ≤ j ∧ j ≤ 1000000 ∧ i.natAbs < 2 ^ 64)) fun i j => .int (i * 2 ^ j.toNat)
theorem o_shl : OpR X (binaryOp .LShift) (rI CPow fun i j => .int (i * 2 ^ j.toNat)) ∧ OpOk X.K (rI CPow fun i j => .int (i * 2 ^ j.toNat)) fShl := ⟨op_shl, ok_II (fun _ _ h => (of_decide_eq_true h :)) fun _ _ _ => .int _⟩
def fShr : D → D → Option D := fII (fun _ j => decide (0 ≤ j)) fun i j => .int (i / 2 ^ j.toNat)
theorem o_shr : OpR X (binaryOp .RShift) (rI (fun _ j => 0 ≤ j) fun i j => .int (i / 2 ^ j.toNat)) ∧ OpOk X.K (rI (fun _ j => 0 ≤ j) fun i j => .int (i / 2 ^ j.toNat)) fShr := ⟨op_shr, ok_II (fun _ _ h => (of_decide_eq_true h :)) fun _ _ _ => .int _⟩
def fNeg : D → Option D
  | .int i => some (.int (-i))
  | _ => none
theorem o_neg : UnR X (unaryOp .USub) (rU fun i => .int (-i)) ∧ UnOk X.K (rU fun i => .int (-i)) fNeg := ⟨un_neg, fun F H x dx dz Q fh hx e q => by
  cases dx <;> cases e
  cases hx
  exact ⟨_, rfl, q _ F H (GV.refl fh) (.int _)⟩⟩
/-! ### == != -/
theorem now_scal {K : PySem.W.Frag} {F H : Hp} {x : V} {d : D} (fh : Ex F H) (h : RpN K F H x d) (c : SeqAt.shaped d = true) : Dp K H x d := h.dp fh (SeqAt.canLay_of_shaped c)
def fEq : D → D → Option D := fun a b => if SeqAt.shaped a = true ∧ SeqAt.shaped b = true then some (.bool (PyData.eqv a b)) else none
def fNe : D → D → Option D := fun a b => if SeqAt.shaped a = true ∧ SeqAt.shaped b = true then some (.bool (!PyData.eqv a b)) else none
theorem o_eq (hu : X.A.units + 64 < cLine) : OpR X (compareOp .Eq) (rEqD X.K) ∧ OpOk X.K (rEqD X.K) fEq := ⟨op_eqD hu, fun F H x y dx dy dz Q fh hx hy e q => by
  unfold fEq at e
  split at e
  · rename_i c
    cases e
    exact ⟨dx, dy, now_scal fh hx c.1, now_scal fh hy c.2, c.1, c.2, q _ F H (GV.refl fh) (.bl _)⟩
  · cases e⟩
theorem o_ne (hu : X.A.units + 64 < cLine) : OpR X (compareOp .NotEq) (rNeD X.K) ∧ OpOk X.K (rNeD X.K) fNe := ⟨op_neD hu, fun F H x y dx dy dz Q fh hx hy e q => by
  unfold fNe at e
  split at e
  · rename_i c
    cases e
    exact ⟨dx, dy, now_scal fh hx c.1, now_scal fh hy c.2, c.1, c.2, q _ F H (GV.refl fh) (.bl _)⟩
  · cases e⟩
/-! ### < <= > >= of ints -/
def fCI (p : Int → Int → Bool) : D → D → Option D := fII (fun _ _ => true) fun i j => .bool (p i j)
theorem o_ltI : OpR X (compareOp .Lt) (rI0 fun i j => .bl (decide (i < j))) ∧ OpOk X.K (rI0 fun i j => .bl (decide (i < j))) (fCI fun i j => decide (i < j)) := ⟨op_lt, ok_II0 fun _ _ _ => .bl _⟩
theorem o_leI : OpR X (compareOp .LtE) (rI0 fun i j => .bl (decide (i ≤ j))) ∧ OpOk X.K (rI0 fun i j => .bl (decide (i ≤ j))) (fCI fun i j => decide (i ≤ j)) := ⟨op_le, ok_II0 fun _ _ _ => .bl _⟩
theorem o_gtI : OpR X (compareOp .Gt) (rI0 fun i j => .bl (decide (j < i))) ∧ OpOk X.K (rI0 fun i j => .bl (decide (j < i))) (fCI fun i j => decide (j < i)) := ⟨op_gt, ok_II0 fun _ _ _ => .bl _⟩
theorem o_geI : OpR X (compareOp .GtE) (rI0 fun i j => .bl (decide (j ≤ i))) ∧ OpOk X.K (rI0 fun i j => .bl (decide (j ≤ i))) (fCI fun i j => decide (j ≤ i)) := ⟨op_ge, ok_II0 fun _ _ _ => .bl _⟩
/-! ### is None, is True -/
def isNone : D → Bool
  | .none => true
  | _ => false
def fIsN : D → D → Option D
  | a, .none => some (.bool (isNone a))
  | _, _ => none
def fNotN : D → D → Option D
  | a, .none => some (.bool (!isNone a))
  | _, _ => none
theorem isN_of {K : PySem.W.Frag} {F H : Hp} {x : V} {d : D} (h : RpN K F H x d) : decide (x = .non) = isNone d := by
  cases d with
  | list ds => obtain ⟨a, xs, rfl, _⟩ := h; rfl
  | _ => cases h <;> rfl
theorem o_isN : OpR X (compareOp .Is) (fun x y H Q => y = .non ∧ Q (.bl (decide (x = .non))) H) ∧ OpOk X.K (fun x y H Q => y = .non ∧ Q (.bl (decide (x = .non))) H) fIsN := ⟨op_isN, fun F H x y dx dy dz Q fh hx hy e q => by
  cases dy <;> try (cases e; done)
  cases hy
  cases e
  refine ⟨rfl, ?_⟩
  rw [isN_of hx]
  exact q _ F H (GV.refl fh) (.bl _)⟩
theorem o_notN : OpR X (compareOp .IsNot) (fun x y H Q => y = .non ∧ Q (.bl (!decide (x = .non))) H) ∧ OpOk X.K (fun x y H Q => y = .non ∧ Q (.bl (!decide (x = .non))) H) fNotN := ⟨op_notN, fun F H x y dx dy dz Q fh hx hy e q => by
  cases dy <;> try (cases e; done)
  cases hy
  cases e
  refine ⟨rfl, ?_⟩
  rw [isN_of hx]
  exact q _ F H (GV.refl fh) (.bl _)⟩
/-! ### in, not in -/
def flatD : D → Bool
  | .none => true
  | .bool _ => true
  | .int _ => true
  | .str _ => true
  | _ => false
theorem flat_of {K : PySem.W.Frag} {F : Hp} {x : V} {d : D} (h : Rp K F x d) (c : flatD d = true) : flatV x = true := by
  cases h <;> first | rfl | (cases c; done)
theorem eqV_of {K : PySem.W.Frag} {F : Hp} {x y : V} {d e : D} (h : Rp K F x d) (h' : Rp K F y e) (c : flatD d = true) (c' : flatD e = true) : eqV x y = PyData.eqv d e := by
  cases h <;> cases h' <;> first | rfl | (cases c; done) | (cases c'; done) | (simp only [eqV, PyData.eqv])
theorem allFlat {K : PySem.W.Frag} {F : Hp} : ∀ {vs : List V} {ds : List D}, RpAll K F vs ds → ds.all flatD = true → vs.all flatV = true
  | _, _, .nil, _ => rfl
  | _, _, .cons h t, c => by
    rw [List.all_cons, Bool.and_eq_true] at c
    rw [List.all_cons, flat_of h c.1, allFlat t c.2]; rfl
theorem inV_of {K : PySem.W.Frag} {F : Hp} {x : V} {d : D} (h : Rp K F x d) (c : flatD d = true) : ∀ {vs : List V} {ds : List D}, RpAll K F vs ds → ds.all flatD = true → inV x vs = ds.any fun e => PyData.eqv e d
  | _, _, .nil, _ => rfl
  | _, _, .cons h1 t, c1 => by
    rw [List.all_cons, Bool.and_eq_true] at c1
    have ih := inV_of h c t c1.2
    unfold inV at ih ⊢
    rw [List.any_cons, List.any_cons, eqV_of h1 h c1.1 c, ih]
def fIn (neg : Bool) : D → D → Option D
  | x, .tuple ds => if flatD x = true ∧ ds.all flatD = true then some (.bool (if neg then !ds.any (fun e => PyData.eqv e x) else ds.any fun e => PyData.eqv e x)) else none
  | x, .list ds => if flatD x = true ∧ ds.all flatD = true then some (.bool (if neg then !ds.any (fun e => PyData.eqv e x) else ds.any fun e => PyData.eqv e x)) else none
  | _, _ => none
theorem now_flat {K : PySem.W.Frag} {F H : Hp} {x : V} {d : D} (h : RpN K F H x d) (c : flatD d = true) : Rp K F x d := by
  cases d <;> first | exact h | (cases c; done)
theorem ok_in {K : PySem.W.Frag} (neg : Bool) : OpOk K (rIn K neg) (fIn neg) := fun F H x y dx dy dz Q fh hx hy e q => by
  cases dy <;> try (cases e; done)
  · rename_i ds
    have e' : (if flatD dx = true ∧ ds.all flatD = true then some (PyData.bool (if neg then !ds.any (fun e => PyData.eqv e dx) else ds.any fun e => PyData.eqv e dx)) else none) = some dz := e
    split at e'
    · rename_i c
      cases e'
      obtain ⟨a, xs, rfl, h1, h2⟩ := hy
      have hx' := now_flat hx c.1
      refine ⟨a, xs, rfl, .inl (.inl (.inl h1)), flat_of hx' c.1, allFlat h2 c.2, ?_⟩
      rw [inV_of hx' c.1 h2 c.2]
      exact q _ F H (GV.refl fh) (.bl _)
    · cases e'
  · rename_i ds
    have e' : (if flatD dx = true ∧ ds.all flatD = true then some (PyData.bool (if neg then !ds.any (fun e => PyData.eqv e dx) else ds.any fun e => PyData.eqv e dx)) else none) = some dz := e
    split at e'
    · rename_i c
      cases e'
      cases hy with
      | tup h1 h2 =>
        have hx' := now_flat hx c.1
        refine ⟨_, _, rfl, .inr (ex_t fh h1), flat_of hx' c.1, allFlat h2 c.2, ?_⟩
        rw [inV_of hx' c.1 h2 c.2]
        exact q _ F H (GV.refl fh) (.bl _)
    · cases e'
theorem o_in : OpR X (compareOp .In) (rIn X.K false) ∧ OpOk X.K (rIn X.K false) (fIn false) := ⟨op_in_seq, ok_in false⟩
theorem o_notIn : OpR X (compareOp .NotIn) (rIn X.K true) ∧ OpOk X.K (rIn X.K true) (fIn true) := ⟨op_notIn_seq, ok_in true⟩
/-! ### subscripts -/
def fIx : D → D → Option D
  | .list ds, .int i => atI ds i
  | .tuple ds, .int i => atI ds i
  | .str z, .int i => if z.length ≤ 10000 then (atI z.cps.toList i).map fun c => .str ⟨#[c]⟩ else none
  | _, _ => none
theorem atI_rp {K : PySem.W.Frag} {F : Hp} {xs : List V} {ds : List D} {i : Int} {d : D} (r : RpAll K F xs ds) (h : atI ds i = some d) : ∃ v, atI xs i = some v ∧ Rp K F v d := by
  unfold atI at h ⊢
  rw [r.len]
  cases z : ixN ds.length i with
  | none => rw [z] at h; cases h
  | some j =>
    rw [z] at h
    exact r.get h
theorem o_ix : IxR X (rIx X.K) ∧ OpOk X.K (rIx X.K) fIx := ⟨ix_seq, fun F H x y dx dy dz Q fh hx hy e q => by
  cases dx <;> try (cases e; done)
  · rename_i z
    cases dy <;> try (cases e; done)
    rename_i i
    cases hx; cases hy
    have e' : (if z.length ≤ 10000 then (atI z.cps.toList i).map fun c => PyData.str ⟨#[c]⟩ else none) = some dz := e
    split at e'
    · rename_i hl
      cases w : atI z.cps.toList i with
      | none => rw [w] at e'; cases e'
      | some c =>
        rw [w] at e'
        cases e'
        exact .inr (.inr ⟨z, i, c, rfl, rfl, line_of hl, w, q _ F H (GV.refl fh) (.str _)⟩)
    · cases e'
  · rename_i ds
    cases dy <;> try (cases e; done)
    rename_i i
    cases hy
    obtain ⟨a, xs, rfl, h1, h2⟩ := hx
    obtain ⟨v, hv, rv⟩ := atI_rp h2 (show atI ds i = some dz from e)
    exact .inl ⟨a, xs, i, v, rfl, rfl, .inl (.inl h1), hv, q _ F H (GV.refl fh) rv⟩
  · rename_i ds
    cases dy <;> try (cases e; done)
    rename_i i
    cases hy
    cases hx with
    | tup h1 h2 =>
      obtain ⟨v, hv, rv⟩ := atI_rp h2 (show atI ds i = some dz from e)
      exact .inr (.inl ⟨_, _, i, v, rfl, rfl, ex_t fh h1, hv, q _ F H (GV.refl fh) rv⟩)⟩
end
end Dl
/-! Dl7: calls of built-ins, over data. -/
namespace Dl
open PySem L2

inductive NowAll (K : PySem.W.Frag) (F H : Hp) : List V → List D → Prop
  | nil : NowAll K F H [] []
  | cons {v d vs ds} : RpN K F H v d → NowAll K F H vs ds → NowAll K F H (v :: vs) (d :: ds)
def rvDs (env : En) : List Rv → Option (List D)
  | [] => some []
  | R :: Rs => (R.d env).bind fun d => (rvDs env Rs).map fun ds => d :: ds
theorem Sat.nowAll {K : PySem.W.Frag} {G : Hp} {ea : Nat → Addr} {F : Hp} {ad : Nat → Addr} {env : En} {σ : St} {H : Hp} (S : Sat K G ea F ad env σ H) : ∀ {Rs : List Rv} {vs : List V} {ds : List D}, RsAll K F σ ea Rs vs → rvDs env Rs = some ds → NowAll K F H vs ds
  | [], _, _, .nil, e => by cases e; exact .nil
  | R :: Rs, _, ds, .cons h t, e => by
    have e' : ((R.d env).bind fun d => (rvDs env Rs).map fun ds => d :: ds) = some ds := e
    cases z : R.d env with
    | none => rw [z] at e'; cases e'
    | some d =>
      rw [z] at e'
      cases z2 : rvDs env Rs with
      | none => simp only [Option.bind_some, z2] at e'; cases e'
      | some ds' =>
        simp only [Option.bind_some, z2] at e'
        cases e'
        exact .cons (S.now h z) (Sat.nowAll S t z2)
def CallOk (K : PySem.W.Frag) (r : List V → Hp → VK → Prop) (f : List D → Option D) : Prop :=
  ∀ (F H : Hp) (vs : List V) (ds : List D) (dz : D) (Q : VK), Ex F H → NowAll K F H vs ds → f ds = some dz → (∀ v F' H', GV F H F' H' → Rp K F' v dz → Q v H') → r vs H Q
/-- a new list (or dict) -/
def CallOkN (K : PySem.W.Frag) (r : List V → Hp → VK → Prop) (f : List D → Option Mu) : Prop :=
  ∀ (F H : Hp) (vs : List V) (ds : List D) (m : Mu) (Q : VK), Ex F H → NowAll K F H vs ds → f ds = some m → (∀ p o, H p = none → MuIs K F (upd H p o) p m → Q (.ref p) (upd H p o)) → r vs H Q
def dCB (f : List D → Option D) (rs : RA) : RE := fun env Q => rs env fun Rs env1 => ∃ ds dz, rvDs env1 Rs = some ds ∧ f ds = some dz ∧ Q (.val dz) env1
def dCBN (f : List D → Option Mu) (rs : RA) : RN := fun env Q => rs env fun Rs env1 => ∃ ds m, rvDs env1 Rs = some ds ∧ f ds = some m ∧ Q m env1
section
variable {X : Cx} {x : Str} {p pos : Pos} {e : Expr} {es : List Expr} {rs : RA} {id T : String} {r : List V → Hp → VK → Prop} {f : List D → Option D} {fn : List D → Option Mu}
theorem lift_CB (o : CallOk X.K r f) (ha : DA X es rs) (σ : St) (H : Hp) (Q : VK) (h : liftE X.K (dCB f rs) σ H Q) : tCB r (liftA X.K rs) σ H Q := by
  obtain ⟨G, ea, F, ad, env, S, q⟩ := h
  refine ⟨G, ea, F, ad, env, S, ha.mono (fun Rs env1 ⟨ds, dz, e1, e2, q⟩ vs F1 ad1 H1 g1 S1 r1 => ?_) q⟩
  exact o F1 H1 vs ds dz Q S1.fh (S1.nowAll r1 e1) e2 fun v F' H' g r => q v F' ad1 H' (g1.trans g.grow) (S1.gv g) r
theorem lift_CBN (o : CallOkN X.K r fn) (ha : DA X es rs) (σ : St) (H : Hp) (Q : VK) (h : liftN X.K (dCBN fn rs) σ H Q) : tCB r (liftA X.K rs) σ H Q := by
  obtain ⟨G, ea, F, ad, env, S, q⟩ := h
  refine ⟨G, ea, F, ad, env, S, ha.mono (fun Rs env1 ⟨ds, dz, e1, e2, q⟩ vs F1 ad1 H1 g1 S1 r1 => ?_) q⟩
  exact o F1 H1 vs ds dz Q S1.fh (S1.nowAll r1 e1) e2 fun p o hp hm => q p F1 ad1 _ (g1.trans (Grow.newM hp)) (S1.newM hp) (S1.fresh hp g1.dom hm)
theorem dCB_mono (ha : DA X es rs) {env : En} {Q Q' : Rv → En → Prop} (m : ∀ R env', Q R env' → Q' R env') (h : dCB f rs env Q) : dCB f rs env Q' := ha.mono (fun Rs env1 ⟨ds, dz, e1, e2, q⟩ => ⟨ds, dz, e1, e2, m _ _ q⟩) h
theorem dCBN_mono (ha : DA X es rs) {env : En} {Q Q' : Mu → En → Prop} (m : ∀ R env', Q R env' → Q' R env') (h : dCBN fn rs env Q) : dCBN fn rs env Q' := ha.mono (fun Rs env1 ⟨ds, dz, e1, e2, q⟩ => ⟨ds, dz, e1, e2, m _ _ q⟩) h
theorem de_callB (o : CallR X (.builtin id) r ∧ CallOk X.K r f) (hm : X.mg x = none) (hv : bootBuiltins x = some (.builtin id)) (ha : DA X (e :: es) rs) (hg : Gl X x := by rfl) (hn : x ≠ "__name__" := by decide) (hdb : (x == ("__debug__" : Str)) = false := by decide)
    (he : starEach (e :: es) X.env = (false, eval e X.env) :: starEach es X.env := by rfl) (hpl : (backTo pos (starEach es X.env)).any (·.1) = false := by rfl) : DE X (.Call (.Name x p) (e :: es) [] pos) (dCB f rs) :=
  ⟨PE.imp (pe_callB o.1 hg hm hv ha.run hn hdb he hpl) (lift_CB o.2 ha), dCB_mono ha⟩
theorem dn_callB (o : CallR X (.builtin id) r ∧ CallOkN X.K r fn) (hm : X.mg x = none) (hv : bootBuiltins x = some (.builtin id)) (ha : DA X (e :: es) rs) (hg : Gl X x := by rfl) (hn : x ≠ "__name__" := by decide) (hdb : (x == ("__debug__" : Str)) = false := by decide)
    (he : starEach (e :: es) X.env = (false, eval e X.env) :: starEach es X.env := by rfl) (hpl : (backTo pos (starEach es X.env)).any (·.1) = false := by rfl) : DN X (.Call (.Name x p) (e :: es) [] pos) (dCBN fn rs) :=
  ⟨PE.imp (pe_callB o.1 hg hm hv ha.run hn hdb he hpl) (lift_CBN o.2 ha), dCBN_mono ha⟩
theorem de_callTy (o : CallR X (.type T) r ∧ CallOk X.K r f) (hm : X.mg x = none) (hv : bootBuiltins x = some (.type T)) (ha : DA X (e :: es) rs) (hg : Gl X x := by rfl) (hn : x ≠ "__name__" := by decide) (hdb : (x == ("__debug__" : Str)) = false := by decide)
    (he : starEach (e :: es) X.env = (false, eval e X.env) :: starEach es X.env := by rfl) (hpl : (backTo pos (starEach es X.env)).any (·.1) = false := by rfl) : DE X (.Call (.Name x p) (e :: es) [] pos) (dCB f rs) :=
  ⟨PE.imp (pe_callTy o.1 hg hm hv ha.run hn hdb he hpl) (lift_CB o.2 ha), dCB_mono ha⟩
theorem dn_callTy (o : CallR X (.type T) r ∧ CallOkN X.K r fn) (hm : X.mg x = none) (hv : bootBuiltins x = some (.type T)) (ha : DA X (e :: es) rs) (hg : Gl X x := by rfl) (hn : x ≠ "__name__" := by decide) (hdb : (x == ("__debug__" : Str)) = false := by decide)
    (he : starEach (e :: es) X.env = (false, eval e X.env) :: starEach es X.env := by rfl) (hpl : (backTo pos (starEach es X.env)).any (·.1) = false := by rfl) : DN X (.Call (.Name x p) (e :: es) [] pos) (dCBN fn rs) :=
  ⟨PE.imp (pe_callTy o.1 hg hm hv ha.run hn hdb he hpl) (lift_CBN o.2 ha), dCBN_mono ha⟩
end
section
variable {X : Cx} {K : PySem.W.Frag}
theorem now1 {F H : Hp} {vs : List V} {d : D} (h : NowAll K F H vs [d]) : ∃ v, vs = [v] ∧ RpN K F H v d := by
  cases h with
  | cons h t => cases t; exact ⟨_, rfl, h⟩
theorem now2 {F H : Hp} {vs : List V} {d d2 : D} (h : NowAll K F H vs [d, d2]) : ∃ v w, vs = [v, w] ∧ RpN K F H v d ∧ RpN K F H w d2 := by
  cases h with
  | cons h t => obtain ⟨w, rfl, h2⟩ := now1 t; exact ⟨_, _, rfl, h, h2⟩
theorem CallOk.or {r r' : List V → Hp → VK → Prop} {f g : List D → Option D} (h : CallOk K r f) (h' : CallOk K r' g) : CallOk K (fun x H Q => r x H Q ∨ r' x H Q) (fun a => (f a).or (g a)) :=
  fun F H x dx dz Q fh hx e q => by
    have e' : (f dx).or (g dx) = some dz := e
    cases z : f dx with
    | some d => rw [z] at e'; cases e'; exact .inl (h F H x dx _ Q fh hx z q)
    | none => rw [z] at e'; exact .inr (h' F H x dx dz Q fh hx e' q)
def fLen : List D → Option D
  | [.list ds] => some (.int ds.length)
  | [.tuple ds] => some (.int ds.length)
  | [.str z] => if z.length ≤ 10000 then some (.int z.length) else none
  | _ => none
abbrev rLenU (K : PySem.W.Frag) : List V → Hp → VK → Prop := fun xs H Q => (∃ p ys, xs = [.ref p] ∧ (SqL K H p ys ∨ SqT K H p ys) ∧ Q (.int ys.length) H) ∨ ∃ z, xs = [.str z] ∧ z.length ≤ sizeLine ∧ Q (.int z.length) H
theorem o_len : CallR X (.builtin "len") (rLenU X.K) ∧ CallOk X.K (rLenU X.K) fLen := ⟨call_len_seq.or call_len_str, fun F H vs ds dz Q fh hn e q => by
  match ds, e, hn with
  | [.list ds], e, hn =>
    cases e
    obtain ⟨v, rfl, a, xs, rfl, h1, h2⟩ := now1 hn
    refine .inl ⟨a, xs, rfl, .inl (.inl (.inl h1)), ?_⟩
    rw [h2.len]
    exact q _ F H (GV.refl fh) (.int _)
  | [.tuple ds], e, hn =>
    cases e
    obtain ⟨v, rfl, h⟩ := now1 hn
    cases h with
    | tup h1 h2 =>
      refine .inl ⟨_, _, rfl, .inr (ex_t fh h1), ?_⟩
      rw [h2.len]
      exact q _ F H (GV.refl fh) (.int _)
  | [.str z], e, hn =>
    obtain ⟨v, rfl, h⟩ := now1 hn
    cases h
    have e' : (if z.length ≤ 10000 then some (PyData.int z.length) else none) = some dz := e
    split at e'
    · rename_i hl; cases e'; exact .inr ⟨z, rfl, line_of hl, q _ F H (GV.refl fh) (.int _)⟩
    · cases e'⟩
def fAbs : List D → Option D
  | [.int i] => some (.int (if i < 0 then -i else i))
  | _ => none
theorem o_abs : CallR X (.builtin "abs") (fun xs H Q => ∃ i, xs = [.int i] ∧ Q (.int (if i < 0 then -i else i)) H) ∧ CallOk X.K (fun xs H Q => ∃ i, xs = [.int i] ∧ Q (.int (if i < 0 then -i else i)) H) fAbs := ⟨call_abs, fun F H vs ds dz Q fh hn e q => by
  match ds, e, hn with
  | [.int i], e, hn =>
    cases e
    obtain ⟨v, rfl, h⟩ := now1 hn
    cases h
    exact ⟨i, rfl, q _ F H (GV.refl fh) (.int _)⟩⟩
def fInt : List D → Option D
  | [.int i] => some (.int i)
  | [.bool b] => some (.int (if b then 1 else 0))
  | _ => none
theorem o_int : CallR X (.type "int") (fun xs H Q => (∃ i, xs = [.int i] ∧ Q (.int i) H) ∨ ∃ k, xs = [.bl k] ∧ Q (.int (if k then 1 else 0)) H) ∧ CallOk X.K (fun xs H Q => (∃ i, xs = [.int i] ∧ Q (.int i) H) ∨ ∃ k, xs = [.bl k] ∧ Q (.int (if k then 1 else 0)) H) fInt := ⟨call_int1, fun F H vs ds dz Q fh hn e q => by
  match ds, e, hn with
  | [.int i], e, hn =>
    cases e
    obtain ⟨v, rfl, h⟩ := now1 hn
    cases h
    exact .inl ⟨i, rfl, q _ F H (GV.refl fh) (.int _)⟩
  | [.bool i], e, hn =>
    cases e
    obtain ⟨v, rfl, h⟩ := now1 hn
    cases h
    exact .inr ⟨i, rfl, q _ F H (GV.refl fh) (.int _)⟩⟩
def fMax2 : List D → Option D
  | [.int i, .int j] => some (.int (if j > i then j else i))
  | _ => none
def fMin2 : List D → Option D
  | [.int i, .int j] => some (.int (if j < i then j else i))
  | _ => none
theorem o_max2 (hc : X.calm = true) : CallR X (.builtin "max") (fun xs H Q => ∃ i j, xs = [.int i, .int j] ∧ Q (.int (if j > i then j else i)) H) ∧ CallOk X.K (fun xs H Q => ∃ i j, xs = [.int i, .int j] ∧ Q (.int (if j > i then j else i)) H) fMax2 := ⟨call_max2 hc, fun F H vs ds dz Q fh hn e q => by
  match ds, e, hn with
  | [.int i, .int j], e, hn =>
    cases e
    obtain ⟨v, w, rfl, h, h2⟩ := now2 hn
    cases h; cases h2
    exact ⟨i, j, rfl, q _ F H (GV.refl fh) (.int _)⟩⟩
theorem o_min2 (hc : X.calm = true) : CallR X (.builtin "min") (fun xs H Q => ∃ i j, xs = [.int i, .int j] ∧ Q (.int (if j < i then j else i)) H) ∧ CallOk X.K (fun xs H Q => ∃ i j, xs = [.int i, .int j] ∧ Q (.int (if j < i then j else i)) H) fMin2 := ⟨call_min2 hc, fun F H vs ds dz Q fh hn e q => by
  match ds, e, hn with
  | [.int i, .int j], e, hn =>
    cases e
    obtain ⟨v, w, rfl, h, h2⟩ := now2 hn
    cases h; cases h2
    exact ⟨i, j, rfl, q _ F H (GV.refl fh) (.int _)⟩⟩
/-- a list of ints (bools), as such -/
def intsD : List D → Option (List Int)
  | [] => some []
  | .int i :: ds => (intsD ds).map fun is => i :: is
  | _ => none
def blsD : List D → Option (List Bool)
  | [] => some []
  | .bool i :: ds => (blsD ds).map fun is => i :: is
  | _ => none
theorem intsD_map : ∀ ns : List Int, intsD (ns.map PyData.int) = some ns
  | [] => rfl
  | n :: ns => by show (intsD (ns.map PyData.int)).map _ = _; rw [intsD_map ns]; rfl
theorem blsD_map : ∀ ns : List Bool, blsD (ns.map PyData.bool) = some ns
  | [] => rfl
  | n :: ns => by show (blsD (ns.map PyData.bool)).map _ = _; rw [blsD_map ns]; rfl
theorem intsD_eq : ∀ {ds : List D} {ns : List Int}, intsD ds = some ns → ds = ns.map PyData.int
  | [], _, e => by cases e; rfl
  | .int i :: ds, ns, e => by
    have e' : (intsD ds).map (fun is => i :: is) = some ns := e
    cases z : intsD ds with
    | none => rw [z] at e'; cases e'
    | some is => rw [z] at e'; cases e'; rw [intsD_eq z]; rfl
  | .none :: _, _, e => by cases e
  | .bool _ :: _, _, e => by cases e
  | .str _ :: _, _, e => by cases e
  | .list _ :: _, _, e => by cases e
  | .tuple _ :: _, _, e => by cases e
  | .dict _ :: _, _, e => by cases e
theorem blsD_eq : ∀ {ds : List D} {ns : List Bool}, blsD ds = some ns → ds = ns.map PyData.bool
  | [], _, e => by cases e; rfl
  | .bool i :: ds, ns, e => by
    have e' : (blsD ds).map (fun is => i :: is) = some ns := e
    cases z : blsD ds with
    | none => rw [z] at e'; cases e'
    | some is => rw [z] at e'; cases e'; rw [blsD_eq z]; rfl
  | .none :: _, _, e => by cases e
  | .int _ :: _, _, e => by cases e
  | .str _ :: _, _, e => by cases e
  | .list _ :: _, _, e => by cases e
  | .tuple _ :: _, _, e => by cases e
  | .dict _ :: _, _, e => by cases e
def fAll : List D → Option D
  | [.list ds] => (blsD ds).map fun bs => .bool (bs.all id)
  | _ => none
def fAny : List D → Option D
  | [.list ds] => (blsD ds).map fun bs => .bool (bs.any id)
  | _ => none
def fSum : List D → Option D
  | [.list ds] => (intsD ds).map fun bs => .int bs.sum
  | _ => none
theorem o_all (hc : X.calm = true) : CallR X (.builtin "all") (rAll X.K) ∧ CallOk X.K (rAll X.K) fAll := ⟨cr_all hc, fun F H vs ds dz Q fh hn e q => by
  match ds, e, hn with
  | [.list ds], e, hn =>
    have e' : (blsD ds).map (fun bs => PyData.bool (bs.all id)) = some dz := e
    cases z : blsD ds with
    | none => rw [z] at e'; cases e'
    | some bs =>
      rw [z] at e'; cases e'
      obtain ⟨v, rfl, a, xs, rfl, h1, h2⟩ := now1 hn
      rw [blsD_eq z] at h2
      rw [h2.bls] at h1
      exact ⟨a, bs, rfl, .inl (.inl h1), q _ F H (GV.refl fh) (.bl _)⟩⟩
theorem o_any (hc : X.calm = true) : CallR X (.builtin "any") (rAny X.K) ∧ CallOk X.K (rAny X.K) fAny := ⟨cr_any hc, fun F H vs ds dz Q fh hn e q => by
  match ds, e, hn with
  | [.list ds], e, hn =>
    have e' : (blsD ds).map (fun bs => PyData.bool (bs.any id)) = some dz := e
    cases z : blsD ds with
    | none => rw [z] at e'; cases e'
    | some bs =>
      rw [z] at e'; cases e'
      obtain ⟨v, rfl, a, xs, rfl, h1, h2⟩ := now1 hn
      rw [blsD_eq z] at h2
      rw [h2.bls] at h1
      exact ⟨a, bs, rfl, .inl (.inl h1), q _ F H (GV.refl fh) (.bl _)⟩⟩
theorem o_sum (hc : X.calm = true) : CallR X (.builtin "sum") (rSum X.K) ∧ CallOk X.K (rSum X.K) fSum := ⟨cr_sum hc, fun F H vs ds dz Q fh hn e q => by
  match ds, e, hn with
  | [.list ds], e, hn =>
    have e' : (intsD ds).map (fun bs => PyData.int bs.sum) = some dz := e
    cases z : intsD ds with
    | none => rw [z] at e'; cases e'
    | some bs =>
      rw [z] at e'; cases e'
      obtain ⟨v, rfl, a, xs, rfl, h1, h2⟩ := now1 hn
      rw [intsD_eq z] at h2
      rw [h2.ints] at h1
      exact ⟨a, bs, rfl, .inl (.inl h1), q _ F H (GV.refl fh) (.int _)⟩⟩
/-- the greatest, the least of some ints -/
def maxI : List Int → Int
  | [] => 0
  | [x] => x
  | x :: y :: r => max x (maxI (y :: r))
def minI : List Int → Int
  | [] => 0
  | [x] => x
  | x :: y :: r => min x (minI (y :: r))
theorem maxI_spec : ∀ {ns : List Int}, 0 < ns.length → maxI ns ∈ ns ∧ ∀ y ∈ ns, y ≤ maxI ns
  | [x], _ => ⟨by simp [maxI], fun y h => by simp at h; subst h; exact Int.le_refl _⟩
  | x :: y :: r, _ => by
    obtain ⟨h1, h2⟩ := maxI_spec (ns := y :: r) (by simp)
    have e : maxI (x :: y :: r) = max x (maxI (y :: r)) := rfl
    rw [e]
    refine ⟨?_, fun z hz => ?_⟩
    · rcases Int.le_total x (maxI (y :: r)) with h | h
      · rw [Int.max_eq_right h]; exact List.mem_cons_of_mem _ h1
      · rw [Int.max_eq_left h]; exact List.mem_cons_self
    · rcases List.mem_cons.mp hz with rfl | hz
      · exact Int.le_max_left _ _
      · exact Int.le_trans (h2 z hz) (Int.le_max_right _ _)
theorem minI_spec : ∀ {ns : List Int}, 0 < ns.length → minI ns ∈ ns ∧ ∀ y ∈ ns, minI ns ≤ y
  | [x], _ => ⟨by simp [minI], fun y h => by simp at h; subst h; exact Int.le_refl _⟩
  | x :: y :: r, _ => by
    obtain ⟨h1, h2⟩ := minI_spec (ns := y :: r) (by simp)
    have e : minI (x :: y :: r) = min x (minI (y :: r)) := rfl
    rw [e]
    refine ⟨?_, fun z hz => ?_⟩
    · rcases Int.le_total x (minI (y :: r)) with h | h
      · rw [Int.min_eq_left h]; exact List.mem_cons_self
      · rw [Int.min_eq_right h]; exact List.mem_cons_of_mem _ h1
    · rcases List.mem_cons.mp hz with rfl | hz
      · exact Int.min_le_left _ _
      · exact Int.le_trans (Int.min_le_right _ _) (h2 z hz)
def fMax : List D → Option D
  | [.list ds] => (intsD ds).bind fun ns => if 0 < ns.length then some (.int (maxI ns)) else none
  | _ => none
def fMin : List D → Option D
  | [.list ds] => (intsD ds).bind fun ns => if 0 < ns.length then some (.int (minI ns)) else none
  | _ => none
theorem o_max (hc : X.calm = true) : CallR X (.builtin "max") (rMax X.K) ∧ CallOk X.K (rMax X.K) fMax := ⟨cr_max hc, fun F H vs ds dz Q fh hn e q => by
  match ds, e, hn with
  | [.list ds], e, hn =>
    have e' : ((intsD ds).bind fun ns => if 0 < ns.length then some (PyData.int (maxI ns)) else none) = some dz := e
    cases z : intsD ds with
    | none => rw [z] at e'; cases e'
    | some ns =>
      rw [z] at e'
      simp only [Option.bind_some] at e'
      split at e'
      · rename_i h0
        cases e'
        obtain ⟨v, rfl, a, xs, rfl, h1, h2⟩ := now1 hn
        rw [intsD_eq z] at h2
        rw [h2.ints] at h1
        refine ⟨a, ns, rfl, .inl (.inl h1), h0, fun m hm hle => ?_⟩
        obtain ⟨b1, b2⟩ := maxI_spec h0
        have : m = maxI ns := Int.le_antisymm (b2 m hm) (hle _ b1)
        rw [this]
        exact q _ F H (GV.refl fh) (.int _)
      · cases e'⟩
theorem o_min (hc : X.calm = true) : CallR X (.builtin "min") (rMin X.K) ∧ CallOk X.K (rMin X.K) fMin := ⟨cr_min hc, fun F H vs ds dz Q fh hn e q => by
  match ds, e, hn with
  | [.list ds], e, hn =>
    have e' : ((intsD ds).bind fun ns => if 0 < ns.length then some (PyData.int (minI ns)) else none) = some dz := e
    cases z : intsD ds with
    | none => rw [z] at e'; cases e'
    | some ns =>
      rw [z] at e'
      simp only [Option.bind_some] at e'
      split at e'
      · rename_i h0
        cases e'
        obtain ⟨v, rfl, a, xs, rfl, h1, h2⟩ := now1 hn
        rw [intsD_eq z] at h2
        rw [h2.ints] at h1
        refine ⟨a, ns, rfl, .inl (.inl h1), h0, fun m hm hle => ?_⟩
        obtain ⟨b1, b2⟩ := minI_spec h0
        have : m = minI ns := Int.le_antisymm (hle _ b1) (b2 m hm)
        rw [this]
        exact q _ F H (GV.refl fh) (.int _)
      · cases e'⟩
/-- tuple(x), list(x) -/
def fTuple : List D → Option D
  | [.list ds] => some (.tuple ds)
  | [.tuple ds] => some (.tuple ds)
  | _ => none
abbrev rTupleU (K : PySem.W.Frag) : List V → Hp → VK → Prop := fun xs H Q => ∃ p ys, xs = [.ref p] ∧ ((SqL K H p ys ∧ ∀ l, H l = none → Q (.ref l) (upd H l (.tup ys))) ∨ (SqT K H p ys ∧ Q (.ref p) H))
theorem o_tuple : CallR X (.type "tuple") (rTupleU X.K) ∧ CallOk X.K (rTupleU X.K) fTuple := ⟨call_tuple_of, fun F H vs ds dz Q fh hn e q => by
  match ds, e, hn with
  | [.list ds], e, hn =>
    cases e
    obtain ⟨v, rfl, a, xs, rfl, h1, h2⟩ := now1 hn
    refine ⟨a, xs, rfl, .inl ⟨.inl (.inl h1), fun l hl => ?_⟩⟩
    have g := GV.new (o := .tup xs) fh hl
    exact q _ _ _ g (.tup (.inl (.inl upd_same)) (h2.mono g.ex))
  | [.tuple ds], e, hn =>
    cases e
    obtain ⟨v, rfl, h⟩ := now1 hn
    cases h with
    | tup h1 h2 => exact ⟨_, _, rfl, .inr ⟨ex_t fh h1, q _ F H (GV.refl fh) (.tup h1 h2)⟩⟩⟩
def fList : List D → Option Mu
  | [.list ds] => some (.lst ds)
  | [.tuple ds] => some (.lst ds)
  | _ => none
abbrev rListU (K : PySem.W.Frag) : List V → Hp → VK → Prop := fun xs H Q => ∃ p ys, xs = [.ref p] ∧ (SqL K H p ys ∨ SqT K H p ys) ∧ ∀ l, H l = none → Q (.ref l) (upd H l (.lst ys))
theorem o_list : CallR X (.type "list") (rListU X.K) ∧ CallOkN X.K (rListU X.K) fList := ⟨call_list_of, fun F H vs ds m Q fh hn e q => by
  match ds, e, hn with
  | [.list ds], e, hn =>
    cases e
    obtain ⟨v, rfl, a, xs, rfl, h1, h2⟩ := now1 hn
    exact ⟨a, xs, rfl, .inl (.inl (.inl h1)), fun l hl => q l _ hl ⟨xs, upd_same, h2⟩⟩
  | [.tuple ds], e, hn =>
    cases e
    obtain ⟨v, rfl, h⟩ := now1 hn
    cases h with
    | tup h1 h2 => exact ⟨_, _, rfl, .inr (ex_t fh h1), fun l hl => q l _ hl ⟨_, upd_same, h2⟩⟩⟩
end
end Dl
/-! Dl8: called defs, methods of lists, isinstance, slices, ranges as data. -/
namespace Dl
open PySem L2

/-- a def that keeps its promise -/
structure Cal (P : Program) (w : World) (K : PySem.W.Frag) (mg : Str → Option Value) (base : Heap) (x : Str) (k : Nat) (ps : List Str) (T : DSp) where
  f : Addr
  fd : FuncData
  ok : FnOk P w K mg base CX0 k f fd ps (spD K ps.length T.run)
  m : mg x = some (.ref f)
  kp : PySem.W.keepIn K (.ref f) = true
  b : Binds K fd ps []
/-- a def of the text, where it stands -/
structure FnA (K : PySem.W.Frag) (mg : Str → Option Value) (x : Str) (st : Stmt) where
  f : Addr
  fd : FuncData
  F : Fun K x x st f fd
  m : mg x = some (.ref f)
section
variable {P : Program} {w : World} {K : PySem.W.Frag} {mg : Str → Option Value} {base : Heap}
def FnA.cal {x : Str} {st : Stmt} {N ps : List Str} {k : Nat} {T : DSp} {r : RS} (A : FnA K mg x st) (sc : FnScope N ps (defScope st))
    (hb : ∀ (kV doc pm : Value) (an : Option Addr) (cdv ct : Value) (us : List Value), us.length = ps.length → bindArgs (PySem.W.fnOf x x (defArgs st) (defBody st) (defScope st) .none kV doc pm an cdv ct) ⟨us, []⟩ = pure (ps.zip us))
    (hd : ∀ (cdv : Value) (A' : Around) (outer : List Env) (s : Shared) (H : Hp) (E : XK), Room k (A'.deeper (PyProof.Rows.envOfC x (defScope st) s.heap.objs.size A.f cdv)) → DSs (cxOf CX0 P w K mg base N x (defScope st) A.f cdv A' outer s H E).nox (defBody st) r)
    (hp : ∀ (args : List Arg) (xt : List Mu) (Q : Res → List Mu → Prop), args.length = ps.length → T.run args xt Q → r { nx := fun e => Q (.val .none) e.xt, rt := fun R e => Q R e.xt } (env0 args N.length xt)) :
    Cal P w K mg base x (k + 1) ps T :=
  ⟨A.f, A.fd, fn_d A.F sc fun cdv A' outer s H E hr => ⟨r, hd cdv A' outer s H E hr, hp⟩, A.m, A.F.kp, A.F.binds hb⟩
end
section
variable {X : Cx} {k : Nat} {ps : List Str} {x : Str} {p pos : Pos} {e : Expr} {es : List Expr} {rs : RA} {T : DSp} {md : List Bool}
theorem de_callC (c : Cal X.prog X.w X.K X.mg X.base x k ps T) (hr : Room k X.A) (md : List Bool) (ha : DA X (e :: es) rs) (hg : Gl X x := by rfl) (hdb : (x == ("__debug__" : Str)) = false := by decide)
    (he : starEach (e :: es) X.env = (false, eval e X.env) :: starEach es X.env := by rfl) (hpl : (backTo pos (starEach es X.env)).any (·.1) = false := by rfl) : DE X (.Call (.Name x p) (e :: es) [] pos) (dCall T ps.length md rs) :=
  de_call c.ok hr c.m c.kp c.b md ha hg hdb he hpl
theorem dn_callC (c : Cal X.prog X.w X.K X.mg X.base x k ps T) (hr : Room k X.A) (md : List Bool) (ha : DA X (e :: es) rs) (hg : Gl X x := by rfl) (hdb : (x == ("__debug__" : Str)) = false := by decide)
    (he : starEach (e :: es) X.env = (false, eval e X.env) :: starEach es X.env := by rfl) (hpl : (backTo pos (starEach es X.env)).any (·.1) = false := by rfl) : DN X (.Call (.Name x p) (e :: es) [] pos) (dCallN T ps.length md rs) :=
  dn_call c.ok hr c.m c.kp c.b md ha hg hdb he hpl
/-! ### is, isinstance -/
def fIs : D → D → Option D
  | a, .none => some (.bool (isNone a))
  | .bool a, .bool b => some (.bool (decide (a = b)))
  | .none, .bool _ => some (.bool false)
  | .int _, .bool _ => some (.bool false)
  | .str _, .bool _ => some (.bool false)
  | _, _ => none
def fIsNot : D → D → Option D
  | a, .none => some (.bool (!isNone a))
  | _, _ => none
theorem o_isNot : OpR X (compareOp .IsNot) (fun x y H Q => y = .non ∧ Q (.bl (!decide (x = .non))) H) ∧ OpOk X.K (fun x y H Q => y = .non ∧ Q (.bl (!decide (x = .non))) H) fIsNot := ⟨op_notN, fun F H x y dx dy dz Q fh hx hy e q => by
  have e' : fNotN dx dy = some dz := by
    cases dy <;> first | exact e | (cases dx <;> cases e)
  exact o_notN (X := X).2 F H x y dx dy dz Q fh hx hy e' q⟩
def fIs0 : D → D → Option D
  | a, .none => some (.bool (isNone a))
  | _, _ => none
theorem o_is : OpR X (compareOp .Is) (fun x y H Q => y = .non ∧ Q (.bl (decide (x = .non))) H) ∧ OpOk X.K (fun x y H Q => y = .non ∧ Q (.bl (decide (x = .non))) H) fIs0 := ⟨op_isN, fun F H x y dx dy dz Q fh hx hy e q => by
  have e' : fIsN dx dy = some dz := by
    cases dy <;> first | exact e | (cases dx <;> cases e)
  exact o_isN (X := X).2 F H x y dx dy dz Q fh hx hy e' q⟩
/-- a datum's type's name -/
def tyD : D → String
  | .none => "NoneType"
  | .bool _ => "bool"
  | .int _ => "int"
  | .str _ => "str"
  | .list _ => "list"
  | .tuple _ => "tuple"
  | .dict _ => "dict"
theorem tyX_of {K : PySem.W.Frag} {F H : Hp} {v : V} {d : D} (fh : Ex F H) (h : RpN K F H v d) : TyX K H v (.type (tyD d)) := by
  cases d with
  | list ds => obtain ⟨a, xs, rfl, h1, _⟩ := h; exact .base (.lst h1)
  | none => cases h; exact .base .non
  | bool b => cases h; exact .base (.bl b)
  | int i => cases h; exact .base (.int i)
  | str x => cases h; exact .base (.str x)
  | tuple ds =>
    cases h with
    | tup h1 _ =>
      rcases ex_t fh h1 with z | ⟨o, its, n, z1, z2, _⟩
      · rcases z with z | ⟨o, z⟩
        · exact .base (.tup z)
        · exact .fTuple z
      · exact .kTuple z1 z2
  | dict kds =>
    cases h with
    | dK h1 _ _ => exact .base (.dK (fh _ _ h1))
    | dT h1 _ _ => exact .base (.dT (fh _ _ h1))
/-- isinstance of a datum and a built-in type -/
def isiD (ty : String) (d : D) : Option Bool := kitB (tyD d) ty
def dIsi (ty : String) (ra : RE) : RE := fun env Q => ra env fun R env1 => ∃ d b, R.d env1 = some d ∧ isiD ty d = some b ∧ Q (.val (.bool b)) env1
theorem de_isi {ty : Str} {T : String} {tp : Pos} {ra : RE} (hm : X.mg "isinstance" = none) (hmT : X.mg ty = none) (ha : DE X e ra) (hv : bootBuiltins ty = some (.type T) := by decide +kernel) (hg : Gl X "isinstance" := by rfl) (hgT : Gl X ty := by rfl) (hnT : ty ≠ "__name__" := by decide) (hdT : (ty == ("__debug__" : Str)) = false := by decide)
    (he : starEach [e, .Name ty tp] X.env = (false, eval e X.env) :: starEach [.Name ty tp] X.env := by rfl) (he2 : starEach [.Name ty tp] X.env = (false, eval (.Name ty tp) X.env) :: starEach [] X.env := by rfl) (hpl : (backTo pos (starEach [.Name ty tp] X.env)).any (·.1) = false := by rfl) :
    DE X (.Call (.Name "isinstance" p) [e, .Name ty tp] [] pos) (dIsi T ra) :=
  ⟨PE.imp (pe_callB call_isi hg hm PyProof.Rows.boot_isinstance (pa_cons ha.run (pa_cons (pe_bltn (v := .ty T) hgT hmT hv rfl hnT hdT) pa_nil he2) he) (by decide) (by decide) he hpl) fun σ H Q ⟨G, ea, F, ad, env, S, q⟩ =>
    ⟨G, ea, F, ad, env, S, ha.mono (fun R env1 ⟨d, b, e1, e2, q⟩ v F1 ad1 H1 g1 S1 r1 =>
      ⟨v, .ty T, _, _, b, rfl, .ty T, tyX_of S1.fh (S1.now r1 e1), kit_ty e2, q (.bl b) F1 ad1 H1 g1 S1 (.bl b)⟩) q⟩,
   fun m h => ha.mono (fun R env1 ⟨d, b, e1, e2, q⟩ => ⟨d, b, e1, e2, m _ _ q⟩) h⟩
/-! ### methods of a list that changes: its name's slot -/
/-- the list at a name -/
def obAt (env : En) (i : Nat) : Option Ob := ((env.sl[i]?).bind (slotR i)).bind rvOb
theorem Sat.obAt {K : PySem.W.Frag} {G : Hp} {ea : Nat → Addr} {F : Hp} {ad : Nat → Addr} {env : En} {σ : St} {H : Hp} (S : Sat K G ea F ad env σ H) {i : Nat} {o : Ob} {ds : List D} (h : Dl.obAt env i = some o) (hg : o.get env = some (.lst ds)) :
    σ[i]? = some (some (.ref (o.addr ea ad))) ∧ ∃ xs, H (o.addr ea ad) = some (.lst xs) ∧ RpAll K F xs ds := by
  have h' : ((env.sl[i]?).bind (Dl.slotR i)).bind Dl.rvOb = some o := h
  cases z : (env.sl[i]?).bind (Dl.slotR i) with
  | none => rw [z] at h'; cases h'
  | some R =>
    rw [z] at h'
    obtain ⟨v, h1, h2⟩ := S.slotR z
    have ev := S.rvOb h2 h' hg
    subst ev
    obtain ⟨⟨xs, h3, h4⟩, _⟩ := S.ob hg
    exact ⟨h1, xs, h3, h4⟩
/-- the list at o is written -/
theorem Sat.write {K : PySem.W.Frag} {G : Hp} {ea : Nat → Addr} {F : Hp} {ad : Nat → Addr} {env : En} {σ : St} {H : Hp} (S : Sat K G ea F ad env σ H) {o : Ob} {ds ds' : List D} {ys : List V} (hg : o.get env = some (.lst ds)) (r : RpAll K F ys ds') :
    Grow F H F (upd H (o.addr ea ad) (.lst ys)) ∧ Sat K G ea F ad (o.put env (.lst ds')) σ (upd H (o.addr ea ad) (.lst ys)) := by
  obtain ⟨h1, h2, h3⟩ := S.ob hg
  refine ⟨⟨Ex.refl F, fun _ _ => rfl, fun a ha => ?_⟩, S.put (Ex.refl F) (fun _ _ => rfl) (ex_mut S.fh h2) (ex_mut S.gh h3) hg ⟨ys, upd_same, r⟩ fun a _ ne => upd_ne ne⟩
  by_cases z : a = o.addr ea ad
  · rw [z, upd_same]; exact fun z => nomatch z
  · rw [upd_ne z]; exact ha
def dAppend (i : Nat) (ra : RE) : RE := fun env Q => ∃ o ds0, obAt env i = some o ∧ o.get env = some (.lst ds0) ∧ ra env fun R env1 => ∃ d ds, R = .val d ∧ obAt env1 i = some o ∧ o.get env1 = some (.lst ds) ∧ ds.length < 10000 ∧ Q (.val .none) (o.put env1 (.lst (ds ++ [d])))
def dExtend (i : Nat) (ra : RE) : RE := fun env Q => ∃ o ds0, obAt env i = some o ∧ o.get env = some (.lst ds0) ∧ ra env fun R env1 => ∃ es ds, R = .val (.list es) ∧ obAt env1 i = some o ∧ o.get env1 = some (.lst ds) ∧ ds.length + es.length ≤ 10000 ∧ Q (.val .none) (o.put env1 (.lst (ds ++ es)))
def dPop (i : Nat) : RE := fun env Q => ∃ o ds d, obAt env i = some o ∧ o.get env = some (.lst ds) ∧ ds[ds.length - 1]? = some d ∧ Q (.val d) (o.put env (.lst ds.dropLast))
def dPopAt (i : Nat) (ra : RE) : RE := fun env Q => ∃ o ds0, obAt env i = some o ∧ o.get env = some (.lst ds0) ∧ ra env fun R env1 => ∃ (n : Nat) (ds : List D) (d : D), R = .val (.int n) ∧ obAt env1 i = some o ∧ o.get env1 = some (.lst ds) ∧ ds[n]? = some d ∧ ds.length ≤ 10000 ∧ Q (.val d) (o.put env1 (.lst (ds.eraseIdx n)))
variable {apos cpos : Pos} {y : Str} {ra : RE}
theorem de_append {i : Nat} (hN : X.N[i]? = some y) (ha : DE X e ra) (hv : Vis X.env.scope y := by first | exact Or.inl rfl | exact Or.inr (Or.inl rfl) | exact Or.inr (Or.inr rfl)) (hd : (y == ("__debug__" : Str)) = false := by decide) (hcd : (y == ("__classdict__" : Str)) = false := by decide)
    (hbase : attributeBase (.Name y p) "append" X.env (eval (.Name y p) X.env) = eval (.Name y p) X.env := by rfl)
    (hfew : ((backTo cpos (starEach [e] X.env)).all (fun x => !x.1) && (backToKw cpos (keywordEach [] X.env)).all (fun x => x.1.isSome)
      && decide (([e] : List Expr).length + ([] : List Keyword).length + (if ([] : List Keyword).isEmpty then 0 else 1) < 30)) = true := by rfl)
    (hline : (apos.endLine == cpos.line) = true := by rfl) (hs : starEach [e] X.env = (false, eval e X.env) :: starEach [] X.env := by rfl) (hplain : (backTo cpos (starEach [] X.env)).any (·.1) = false := by rfl) :
    DE X (.Call (.Attribute (.Name y p) "append" apos) [e] [] cpos) (dAppend i ra) :=
  ⟨PE.imp (pe_bm PySem.F.plainAttrs_list PySem.F.slot_list_append PySem.F.type_list_append mt_append (pv i hN hv hd hcd) (pa_cons ha.run pa_nil hs) hbase hfew hline hs hplain) fun σ H Q ⟨G, ea, F, ad, env, S, o, ds0, h1, h2, q⟩ => by
    obtain ⟨h3, xs, h4, h5⟩ := S.obAt h1 h2
    refine ⟨_, h3, .inl ⟨rfl, xs, .inl (.inl h4)⟩, G, ea, F, ad, env, S, ha.mono (fun R env1 ⟨d, ds, eR, h6, h7, hl, q⟩ v F1 ad1 H1 g1 S1 r1 => ?_) q⟩
    subst eR
    obtain ⟨h8, ys, h9, h10⟩ := S1.obAt h6 h7
    rw [h3] at h8
    have eqa := V.ref.inj (Option.some.inj (Option.some.inj h8))
    refine ⟨o.addr ea ad, ys, v, rfl, rfl, by rw [eqa]; exact h9, by rw [h10.len]; exact Nat.lt_of_lt_of_le hl (by decide), ?_⟩
    obtain ⟨g2, S2⟩ := S1.write (ds' := ds ++ [d]) (ys := ys ++ [v]) h7 (h10.app (.cons r1 .nil))
    rw [eqa]
    exact q .non F1 ad1 _ (g1.trans g2) S2 .non,
   fun m ⟨o, ds0, h1, h2, q⟩ => ⟨o, ds0, h1, h2, ha.mono (fun R env1 ⟨d, ds, eR, h6, h7, hl, q⟩ => ⟨d, ds, eR, h6, h7, hl, m _ _ q⟩) q⟩⟩
theorem de_extend {i : Nat} (hN : X.N[i]? = some y) (ha : DE X e ra) (hv : Vis X.env.scope y := by first | exact Or.inl rfl | exact Or.inr (Or.inl rfl) | exact Or.inr (Or.inr rfl)) (hd : (y == ("__debug__" : Str)) = false := by decide) (hcd : (y == ("__classdict__" : Str)) = false := by decide)
    (hbase : attributeBase (.Name y p) "extend" X.env (eval (.Name y p) X.env) = eval (.Name y p) X.env := by rfl)
    (hfew : ((backTo cpos (starEach [e] X.env)).all (fun x => !x.1) && (backToKw cpos (keywordEach [] X.env)).all (fun x => x.1.isSome)
      && decide (([e] : List Expr).length + ([] : List Keyword).length + (if ([] : List Keyword).isEmpty then 0 else 1) < 30)) = true := by rfl)
    (hline : (apos.endLine == cpos.line) = true := by rfl) (hs : starEach [e] X.env = (false, eval e X.env) :: starEach [] X.env := by rfl) (hplain : (backTo cpos (starEach [] X.env)).any (·.1) = false := by rfl) :
    DE X (.Call (.Attribute (.Name y p) "extend" apos) [e] [] cpos) (dExtend i ra) :=
  ⟨PE.imp (pe_bm PySem.F.plainAttrs_list PySem.F.slot_list_extend PySem.F.type_list_extend mt_extend (pv i hN hv hd hcd) (pa_cons ha.run pa_nil hs) hbase hfew hline hs hplain) fun σ H Q ⟨G, ea, F, ad, env, S, o, ds0, h1, h2, q⟩ => by
    obtain ⟨h3, xs, h4, h5⟩ := S.obAt h1 h2
    refine ⟨_, h3, .inl ⟨rfl, xs, .inl (.inl h4)⟩, G, ea, F, ad, env, S, ha.mono (fun R env1 ⟨es, ds, eR, h6, h7, hl, q⟩ v F1 ad1 H1 g1 S1 r1 => ?_) q⟩
    subst eR
    obtain ⟨h8, ys, h9, h10⟩ := S1.obAt h6 h7
    rw [h3] at h8
    have eqa := V.ref.inj (Option.some.inj (Option.some.inj h8))
    have r1' : Rp X.K F1 v (.list es) := r1
    cases r1' with
    | @lst b zs _ hb rb =>
      refine ⟨o.addr ea ad, b, ys, zs, rfl, rfl, by rw [eqa]; exact h9, S1.fh _ _ hb, by rw [h10.len, rb.len]; exact line_of hl, ?_⟩
      obtain ⟨g2, S2⟩ := S1.write (ds' := ds ++ es) (ys := ys ++ zs) h7 (h10.app rb)
      rw [eqa]
      exact q .non F1 ad1 _ (g1.trans g2) S2 .non,
   fun m ⟨o, ds0, h1, h2, q⟩ => ⟨o, ds0, h1, h2, ha.mono (fun R env1 ⟨d, ds, eR, h6, h7, hl, q⟩ => ⟨d, ds, eR, h6, h7, hl, m _ _ q⟩) q⟩⟩
theorem de_pop {i : Nat} (hN : X.N[i]? = some y) (hv : Vis X.env.scope y := by first | exact Or.inl rfl | exact Or.inr (Or.inl rfl) | exact Or.inr (Or.inr rfl)) (hd : (y == ("__debug__" : Str)) = false := by decide) (hcd : (y == ("__classdict__" : Str)) = false := by decide)
    (hbase : attributeBase (.Name y p) "pop" X.env (eval (.Name y p) X.env) = eval (.Name y p) X.env := by rfl) (hline : (apos.endLine == cpos.line) = true := by rfl) :
    DE X (.Call (.Attribute (.Name y p) "pop" apos) [] [] cpos) (dPop i) :=
  ⟨PE.imp (pe_bm0 PySem.F.plainAttrs_list PySem.F.slot_list_pop PySem.F.type_list_pop mt_pop (pv i hN hv hd hcd) hbase hline) fun σ H Q ⟨G, ea, F, ad, env, S, o, ds, d, h1, h2, hd, q⟩ => by
    obtain ⟨h3, xs, h4, h5⟩ := S.obAt h1 h2
    obtain ⟨v, hv, rv⟩ := h5.get hd
    refine ⟨_, h3, .inl ⟨rfl, xs, .inl (.inl h4)⟩, o.addr ea ad, xs, v, rfl, rfl, h4, by rw [h5.len]; exact hv, ?_⟩
    obtain ⟨g2, S2⟩ := S.write (ds' := ds.dropLast) (ys := xs.dropLast) h2 h5.dropLast
    exact q v F ad _ g2 S2 rv,
   fun m ⟨o, ds, d, h1, h2, hd, q⟩ => ⟨o, ds, d, h1, h2, hd, m _ _ q⟩⟩
theorem seqIndex_nat {n len : Nat} (h : n < len) : seqIndex? (n : Int) len = some n := by
  have := (ixN_seq (n := len) (i := (n : Int)) (j := n) (by unfold ixN; rw [if_pos (by omega), if_pos (by omega)]; simp)).1
  exact this
theorem de_popAt {i : Nat} (hN : X.N[i]? = some y) (ha : DE X e ra) (hv : Vis X.env.scope y := by first | exact Or.inl rfl | exact Or.inr (Or.inl rfl) | exact Or.inr (Or.inr rfl)) (hd : (y == ("__debug__" : Str)) = false := by decide) (hcd : (y == ("__classdict__" : Str)) = false := by decide)
    (hbase : attributeBase (.Name y p) "pop" X.env (eval (.Name y p) X.env) = eval (.Name y p) X.env := by rfl)
    (hfew : ((backTo cpos (starEach [e] X.env)).all (fun x => !x.1) && (backToKw cpos (keywordEach [] X.env)).all (fun x => x.1.isSome)
      && decide (([e] : List Expr).length + ([] : List Keyword).length + (if ([] : List Keyword).isEmpty then 0 else 1) < 30)) = true := by rfl)
    (hline : (apos.endLine == cpos.line) = true := by rfl) (hs : starEach [e] X.env = (false, eval e X.env) :: starEach [] X.env := by rfl) (hplain : (backTo cpos (starEach [] X.env)).any (·.1) = false := by rfl) :
    DE X (.Call (.Attribute (.Name y p) "pop" apos) [e] [] cpos) (dPopAt i ra) :=
  ⟨PE.imp (pe_bm PySem.F.plainAttrs_list PySem.F.slot_list_pop PySem.F.type_list_pop mt_popAt (pv i hN hv hd hcd) (pa_cons ha.run pa_nil hs) hbase hfew hline hs hplain) fun σ H Q ⟨G, ea, F, ad, env, S, o, ds0, h1, h2, q⟩ => by
    obtain ⟨h3, xs, h4, h5⟩ := S.obAt h1 h2
    refine ⟨_, h3, .inl ⟨rfl, xs, .inl (.inl h4)⟩, G, ea, F, ad, env, S, ha.mono (fun R env1 ⟨n, ds, d, eR, h6, h7, hd, hl, q⟩ v F1 ad1 H1 g1 S1 r1 => ?_) q⟩
    subst eR
    cases ris_int r1
    obtain ⟨h8, ys, h9, h10⟩ := S1.obAt h6 h7
    rw [h3] at h8
    have eqa := V.ref.inj (Option.some.inj (Option.some.inj h8))
    obtain ⟨u, hu, ru⟩ := h10.get hd
    have hlt : n < ys.length := by
      rcases Nat.lt_or_ge n ys.length with z | z
      · exact z
      · rw [List.getElem?_eq_none z] at hu; cases hu
    have hn := h10.len
    refine ⟨o.addr ea ad, ys, n, n, u, rfl, rfl, by rw [eqa]; exact h9, by omega, by omega, seqIndex_nat hlt, hu, ?_⟩
    obtain ⟨g2, S2⟩ := S1.write (ds' := ds.eraseIdx n) (ys := ys.eraseIdx n) h7 (h10.erase n)
    rw [eqa]
    exact q u F1 ad1 _ (g1.trans g2) S2 ru,
   fun m ⟨o, ds0, h1, h2, q⟩ => ⟨o, ds0, h1, h2, ha.mono (fun R env1 ⟨n, ds, d, eR, h6, h7, hd, hl, q⟩ => ⟨n, ds, d, eR, h6, h7, hd, hl, m _ _ q⟩) q⟩⟩
/-- x[j] = e -/
def dSetAt (i : Nat) (ra rj : RE) : RS := fun De env => ra env fun R env1 => ∃ d o ds0, R = .val d ∧ obAt env1 i = some o ∧ o.get env1 = some (.lst ds0) ∧ rj env1 fun R2 env2 => ∃ (n : Nat) (ds : List D), R2 = .val (.int n) ∧ obAt env2 i = some o ∧ o.get env2 = some (.lst ds) ∧ n < ds.length ∧ De.nx (o.put env2 (.lst (ds.set n d)))
theorem ds_setAt {i : Nat} {j : Expr} {rj : RE} {spos : Pos} (hN : X.N[i]? = some y) (ha : DE X e ra) (hj : DE X j rj) (hv : Vis X.env.scope y := by first | exact Or.inl rfl | exact Or.inr (Or.inl rfl) | exact Or.inr (Or.inr rfl)) (hd : (y == ("__debug__" : Str)) = false := by decide) (hcd : (y == ("__classdict__" : Str)) = false := by decide)
    (hsub : ∀ v, assign (.Subscript (.Name y p) j spos) X.env v = (do
      let ov ← holding [v] (eval (.Name y p) X.env)
      let iv ← holding [v, ov] (eval j X.env)
      standAt spos
      holding [v, ov, iv] (setItem ov iv v)
      release [v, ov, iv] []) := by intro _; rfl)
    (hs : swapsWithSole [.Subscript (.Name y p) j spos] e pos.line X.env = pure false := by rfl) (hw : swappedStores [.Subscript (.Name y p) j spos] e X.env = pure none := by rfl)
    (h1 : (assignEach [.Subscript (.Name y p) j spos] X.env).map (·.2) = [assign (.Subscript (.Name y p) j spos) X.env] := by rfl) :
    DS X (.Assign [.Subscript (.Name y p) j spos] e pos) (dSetAt i ra rj) :=
  ⟨PS.imp (ps_asg ha.run (pg_sub (pv i hN hv hd hcd) hj.run set_list hsub) hs hw h1) fun Ds σ H ⟨G, ea, F, ad, env, De, S, l, q⟩ => ⟨G, ea, F, ad, env, S, ha.mono (fun R env1 ⟨d, o, ds0, eR, h1, h2, q⟩ v F1 ad1 H1 g1 S1 r1 => by
    subst eR
    obtain ⟨h3, xs, h4, h5⟩ := S1.obAt h1 h2
    refine ⟨_, h3, G, ea, F1, ad1, env1, S1, hj.mono (fun R2 env2 ⟨n, ds, eR2, h6, h7, hn, q⟩ w F2 ad2 H2 g2 S2 r2 => ?_) q⟩
    subst eR2
    cases ris_int r2
    obtain ⟨h8, ys, h9, h10⟩ := S2.obAt h6 h7
    rw [h3] at h8
    have eqa := V.ref.inj (Option.some.inj (Option.some.inj h8))
    refine ⟨o.addr ea ad1, ys, n, n, rfl, rfl, by rw [eqa]; exact h9, ?_, ?_⟩
    · rw [h10.len]; unfold ixN; rw [if_pos (by omega), if_pos (by omega)]; simp
    · obtain ⟨g3, S3⟩ := S2.write (ds' := ds.set n d) (ys := ys.set n v) h7 (RpAll.set n (Rp.mono g2.ex r1) h10)
      rw [eqa]
      exact l.nx _ _ F2 ad2 _ ((g1.trans g2).trans g3) S3 q) q⟩,
   fun l h => ha.mono (fun R env1 ⟨d, o, ds0, eR, h1, h2, q⟩ => ⟨d, o, ds0, eR, h1, h2, hj.mono (fun R2 env2 ⟨n, ds, eR2, h6, h7, hn, q⟩ => ⟨n, ds, eR2, h6, h7, hn, l.nx _ q⟩) q⟩) h⟩
end
/-! ### slices -/
abbrev RP := En → (Option Int → En → Prop) → Prop
def liftP (K : PySem.W.Frag) (r : RP) : TO := fun σ H Q => ∃ G ea F ad env, Sat K G ea F ad env σ H ∧ r env fun o env' => ∀ F' ad' H', Grow F H F' H' → Sat K G ea F' ad' env' σ H' → Q o H'
structure DP (X : Cx) (e : Option Expr) (r : RP) : Prop where
  run : PO X e (liftP X.K r)
  mono : ∀ {env Q Q'}, (∀ b env', Q b env' → Q' b env') → r env Q → r env Q'
def dNoP : RP := fun env Q => Q none env
def dP (ra : RE) : RP := fun env Q => ra env fun R env1 => ∃ i, R = .val (.int i) ∧ Q (some i) env1
theorem PO.imp {X : Cx} {e : Option Expr} {t t' : TO} (h : PO X e t) (i : ∀ σ H Q, t' σ H Q → t σ H Q) : PO X e t' := ⟨fun pins s σ H Q I q => h.run pins s σ H Q I (i σ H Q q)⟩
def cutD (xs : List D) (lo hi : Option Int) : List D := (xs.drop (HT.sIx xs.length 0 lo)).take (HT.sIx xs.length xs.length hi - HT.sIx xs.length 0 lo)
def fSl : D → Option Int → Option Int → Option D
  | .list ds, lo, hi => some (.list (cutD ds lo hi))
  | .tuple ds, lo, hi => some (.tuple (cutD ds lo hi))
  | _, _, _ => none
def dSl (ra : RE) (rl rh : RP) : RE := fun env Q => ra env fun R env1 => rl env1 fun lo env2 => rh env2 fun hi env3 => ∃ d dz, R.d env3 = some d ∧ fSl d lo hi = some dz ∧ Q (.val dz) env3
theorem cut_rp {K : PySem.W.Frag} {F : Hp} {xs : List V} {ds : List D} (r : RpAll K F xs ds) (lo hi : Option Int) : RpAll K F (cutV xs lo hi) (cutD ds lo hi) := by
  unfold cutV cutD
  rw [r.len]
  exact (r.drop _).take _
section
variable {X : Cx} {e : Expr} {pos p2 : Pos} {ra : RE} {rl rh : RP} {lo hi : Option Expr}
theorem dp_none : DP X none dNoP := ⟨PO.imp po_none fun σ H Q ⟨G, ea, F, ad, env, S, q⟩ => q F ad H (Grow.refl _ _) S, fun m h => m _ _ h⟩
theorem dp_some (h : DE X e ra) : DP X (some e) (dP ra) := ⟨PO.imp (po_some h.run) fun σ H Q ⟨G, ea, F, ad, env, S, q⟩ => ⟨G, ea, F, ad, env, S, h.mono (fun R env1 ⟨i, eR, q⟩ v F1 ad1 H1 g1 S1 r1 => by
    subst eR
    cases ris_int r1
    exact ⟨i, rfl, q F1 ad1 H1 g1 S1⟩) q⟩, fun m h' => h.mono (fun R env1 ⟨i, eR, q⟩ => ⟨i, eR, m _ _ q⟩) h'⟩
theorem de_sl (he : DE X e ra) (hl : DP X lo rl) (hh : DP X hi rh) : DE X (.Subscript e (.Slice lo hi none p2) pos) (dSl ra rl rh) :=
  ⟨PE.imp (pe_slice (sl_list.or sl_tupA) he.run hl.run hh.run) fun σ H Q ⟨G, ea, F, ad, env, S, q⟩ => ⟨G, ea, F, ad, env, S, he.mono (fun R env1 q v F1 ad1 H1 g1 S1 r1 =>
    ⟨G, ea, F1, ad1, env1, S1, hl.mono (fun lo env2 q F2 ad2 H2 g2 S2 => ⟨G, ea, F2, ad2, env2, S2, hh.mono (fun hi env3 ⟨d, dz, e1, e2, q⟩ F3 ad3 H3 g3 S3 => by
      have hn := S3.now ((r1.mono g2.ex).mono g3.ex) e1
      have gg := (g1.trans g2).trans g3
      cases d with
      | list ds =>
        cases e2
        obtain ⟨a, xs, rfl, h1, h2⟩ := hn
        refine .inl ⟨a, xs, rfl, .inl (.inl h1), fun r hr => ?_⟩
        have g := GV.new (o := .lst (cutV xs lo hi)) S3.fh hr
        exact q _ _ ad3 _ (gg.trans g.grow) (S3.gv g) (.lst upd_same ((cut_rp h2 lo hi).mono g.ex))
      | tuple ds =>
        cases e2
        cases hn with
        | @tup a xs _ h1 h2 =>
          refine .inr ⟨_, _, rfl, ex_t S3.fh h1, fun hw => ?_, fun _ r hr => ?_⟩
          · have e : cutD ds lo hi = ds := by
              unfold cutD
              rw [h2.len] at hw
              rw [hw.1, hw.2, List.drop_zero, Nat.sub_zero, List.take_length]
            rw [e] at q
            exact q _ F3 ad3 H3 gg S3 (.tup h1 h2)
          · have g := GV.new (o := .tup (cutV xs lo hi)) S3.fh hr
            exact q _ _ ad3 _ (gg.trans g.grow) (S3.gv g) (.tup (.inl (.inl upd_same)) ((cut_rp h2 lo hi).mono g.ex))
      | _ => cases e2) q⟩) q⟩) q⟩,
   fun m h => he.mono (fun R env1 q => hl.mono (fun lo env2 q => hh.mono (fun hi env3 ⟨d, dz, e1, e2, q⟩ => ⟨d, dz, e1, e2, m _ _ q⟩) q) q) h⟩
end
/-! ### tuple(range(..)), list(range(..)) -/
section
variable {X : Cx} {a b : Expr} {p q2 pos : Pos} {rs : RA}
def rgA : List Rv → Option (Int × Int)
  | [.val (.int n)] => some (0, n)
  | [.val (.int i), .val (.int j)] => some (i, j)
  | _ => none
def dTupRg (rs : RA) : RE := fun env Q => rs env fun Rs env1 => ∃ i j : Int, rgA Rs = some (i, j) ∧ (0 ≤ i ∧ i ≤ 10000 ∧ 0 ≤ j ∧ j ≤ 10000) ∧ Q (.val (.tuple (rgD i (j - i).toNat))) env1
def dLstRg (rs : RA) : RN := fun env Q => rs env fun Rs env1 => ∃ i j : Int, rgA Rs = some (i, j) ∧ (0 ≤ i ∧ i ≤ 10000 ∧ 0 ≤ j ∧ j ≤ 10000) ∧ Q (.lst (rgD i (j - i).toNat)) env1
theorem rgV_rp {K : PySem.W.Frag} {F : Hp} (i j : Int) : RpAll K F (rgV i j) (rgD i (j - i).toNat) := by
  unfold rgV rgD
  generalize List.range (j - i).toNat = l
  induction l with
  | nil => exact .nil
  | cons n l ih => exact .cons (.int _) ih
theorem rgA1 {R : Rv} {i j : Int} (h : rgA [R] = some (i, j)) : R = .val (.int j) ∧ i = 0 := by
  cases R with
  | val d => cases d <;> first | (cases h; done) | skip
             cases h; exact ⟨rfl, rfl⟩
  | _ => cases h
theorem rgA2 {R R2 : Rv} {i j : Int} (h : rgA [R, R2] = some (i, j)) : R = .val (.int i) ∧ R2 = .val (.int j) := by
  cases R with
  | val d =>
    cases R2 with
    | val d2 => cases d <;> cases d2 <;> first | (cases h; done) | skip
                cases h; exact ⟨rfl, rfl⟩
    | _ => cases d <;> cases h
  | _ => cases R2 <;> cases h
end
end Dl
/-! Dl9: enumerate, zip; names of boot facts; range as a tuple. -/
namespace PySem
open Sem (wp)
open AutoSeq1 (wpAny_loadPart')
theorem dl_meets_enum0 {v : Value} {o : Obj} {H : Heap → Prop} (B : Begins v o H) :
    Meets (Builtin.«enumerate.__new__» ⟨[.type "enumerate", v], []⟩) (fun _ R s => H s.heap ∧
      R (.ok (.ret (.ref (s.heap.push o).objs.size))) { s with heap := (s.heap.push o).push { cls := .type "enumerate", data := .fields #[.none, .bool false, .ref s.heap.objs.size, rawInt 0, .none, .none] } }) :=
  .of_wp fun prog w A R s h => by
    obtain ⟨hp, g, d, tk, os⟩ := s; obtain ⟨h1, h⟩ := h
    have hsub := sub_enumerate
    have q1 : ∀ {A' : Around} {E : Value → Shared → Prop} {Q : Value → Shared → Prop}, Q (.ref hp.objs.size) ⟨hp.push o, g, d, tk, os⟩ → wpAny (model prog w) A' (pyIter v) Q E ⟨hp, g, d, tk, os⟩ :=
      fun q => B.iter prog w _ _ ⟨hp, g, d, tk, os⟩ _ h1 q
    wp_walk using q1
    refine wpAny_stack_any fun st => wpAny_pure ?_
    split
    · rename_i c _ _ _ _ _
      cases (c == Value.type "enumerate")
      · wp_walk using q1
        exact ⟨_, rfl, h⟩
      · wp_walk using q1
        exact ⟨_, rfl, h⟩
    · wp_walk using q1
      exact ⟨_, rfl, h⟩
theorem dl_call_enumB {prog : Program} {w : World} {A : Around} {E : Value → Shared → Prop} {s : Shared} {v : Value} {o : Obj} {H : Heap → Prop} {Q : Value → Shared → Prop} (B : Begins v o H) (h1 : H s.heap)
    (h : ∀ h', IsEnum h' (s.heap.objs.size + 1) s.heap.objs.size 0 .none → h'.get? s.heap.objs.size = some o → h'.objs.size = s.heap.objs.size + 2 →
      (∀ b o, s.heap.get? b = some o → h'.get? b = some o) → Q (.ref (s.heap.objs.size + 1)) { s with heap := h' }) :
    wpAny (model prog w) A (call (.type "enumerate") [v]) Q E s := by
  refine callType_new F.called_enumerate (by decide) (F.typeCall_enumerate_1 _) (F.newCall_enumerate_1 _) (fun obj => F.args_object_init_2 obj _) F.entry_enumerate_new
    (dl_meets_enum0 B) ⟨h1, ?_⟩
  have hz : (s.heap.push o).objs.size = s.heap.objs.size + 1 := Heap.size_push ..
  show _ ∧ _
  rw [hz]
  have he : IsEnum ((s.heap.push o).push { cls := .type "enumerate", data := .fields #[.none, .bool false, .ref s.heap.objs.size, rawInt 0, .none, .none] }) (s.heap.objs.size + 1) s.heap.objs.size 0 .none := by
    have := Heap.get?_push_size (s.heap.push o) (o := { cls := .type "enumerate", data := .fields #[.none, .bool false, .ref s.heap.objs.size, rawInt 0, .none, .none] }) rfl
    rw [hz] at this; exact this
  refine ⟨⟨_, he, rfl⟩, h _ he (Heap.get?_push_of_some _ (Heap.get?_push_size _ B.free)) (by rw [Heap.size_push, hz]) fun b o x => Heap.get?_push_of_some _ (Heap.get?_push_of_some _ x)⟩
theorem dl_enum_endT {prog : Program} {w : World} {A : Around} {E : Value → Shared → Prop} {s : Shared} {e it t : Addr} {items : Array Value} {k : Nat} {i : Int} {old : Value} {Q : Option Value → Shared → Prop} (hh : A.handled = none)
    (he : IsEnum s.heap e it i old) (hit : s.heap.IsTupleIter it t k) (ht : s.heap.IsTuple t items) (hk : items[k]? = none)
    (hQ : ∀ h', Heap.ExtBut it s.heap h' → Q none { s with heap := h' }) : wpAny (model prog w) A (pyNext (.ref e)) Q E s := by
  have hT : s.TypeIs (.ref e) "enumerate" := ⟨_, he, rfl⟩
  unfold pyNext
  refine wpAny_bind (wpAny_attempt (wpAny_callSpecial?_slot (name := Str.ofString "__next__") hT F.slot_enumerate_next
    (wpAny_call_entry F.slot_enumerate_next hT F.entry_enumerate_next ?_ (F.args_enumerate_next_1 _))))
  show wpAny _ _ (field (.ref e) 2 >>= _) _ _ _
  refine wpAny_bind (wpAny_field he rfl (x := .ref it) rfl ?_)
  refine wpAny_bind (RZ.nextOf_tuple_end (A := A.in1) hh hit ht hk fun h' x he' hx' => ?_)
  obtain ⟨o, ho, hc⟩ := hx'
  refine wpAny_bind (wpAny_isInstance (T := "StopIteration") (b := true) ⟨o, ho, hc⟩ isSubtype_stop ?_)
  exact wpAny_pure (hQ _ he')
end PySem
namespace Dl
open PySem L2 PyProof.Rows
/-! ### enumerate -/
/-- the tuple at a, each item in a new pair -/
def IteT (K : PySem.W.Frag) (a : Addr) : It :=
  ⟨fun i H => ∃ (xs : List V) (x : V), SqT K H a xs ∧ xs[i]? = some x, fun i H v H' => ∃ T x, v = .ref T ∧ H T = none ∧ H' = upd H T (.tup [.int (i : Nat), x]) ∧ ∀ xs, SqT K H a xs → xs[i]? = some x, fun i H => ∃ xs : List V, SqT K H a xs ∧ xs.length ≤ i⟩
theorem turn_enumT {P : Program} {w : World} {K : PySem.W.Frag} {elts : List Expr} {kk : Nat} {tpos : Pos} (a e it : Addr) :
    Turn P w K (.Tuple elts kk tpos) (IteT K a) [e, it] e (fun i h => (∃ old, IsEnum h e it ((i : Nat) : Int) old) ∧ h.IsTupleIter it a i ∧ e ≠ it ∧ a ≠ it ∧ a ≠ e) where
  mem := by simp
  obj := fun i h st b hb => by
    obtain ⟨⟨old, he⟩, ⟨o, ho, hc, hd⟩, _⟩ := st
    have e' : b = e ∨ b = it := by simpa using hb
    rcases e' with z | z
    · rw [z]; exact ⟨_, he, fun v q => nomatch q⟩
    · rw [z]; exact ⟨o, ho, fun v q => by rw [hd] at q; cases q⟩
  keep := fun i h h' st k => let ⟨⟨old, he⟩, hi, hne⟩ := st; ⟨⟨old, k e (by simp) _ he⟩, hi.at fun o q => k it (by simp) o q, hne⟩
  item := by
    intro X hP hw hK hc i pins s σ H E I hf st hg
    subst hP hw hK
    obtain ⟨⟨old, he⟩, hit, hne, hai, hae⟩ := st
    obtain ⟨xs, x, hq, hx⟩ := hg
    obtain ⟨its, rv, p, hz⟩ := I.tuple hq
    obtain ⟨u, hu, ru⟩ := rv.get hx
    have hel : e < s.heap.objs.size := Heap.lt_size he
    have hil : it < s.heap.objs.size := by obtain ⟨_, q, _⟩ := hit; exact Heap.lt_size q
    have hli : i < its.toArray.size := by
      have := (List.getElem?_eq_some_iff.mp hu).1
      simpa using this
    refine wpAny_pyNext_enum_itemD (Draws.tuple (A := X.A.in1) (I.ok.hd hc) it a hai its.toArray) he ⟨hit, p⟩ hli hne (by simp [hne, Ne.symm hae]) fun u' h' tk hu' ho hst' hT hsz hk => ?_
    obtain ⟨hit', ht'⟩ := hst'
    have eu : u' = u := by
      have : its.toArray[i]? = some u := by simpa using hu
      rw [this] at hu'; exact (Option.some.inj hu').symm
    subst eu
    refine ⟨_, rfl, wpAny_letOwnedTupleGo_enum (s := { s with heap := h', toks := tk + 1 }) ho fun h'' he' sb => ?_⟩
    have hT2 : h''.get? s.heap.objs.size = some { cls := .type "tuple", data := .seq #[.int i tk, u'] } := (sb.2 _ (Nat.ne_of_gt hel)).trans hT
    have new : ObjOk X.prog X.w (upd H s.heap.objs.size (.tup [.int (i : Nat), x])) h'' s.heap.objs.size (.tup [.int (i : Nat), x]) :=
      ⟨by show 2 ≤ sizeLine; decide, [.int i tk, u'], .cons ⟨_, rfl⟩ (.cons ru .nil), ⟨_, hT2, rfl, _, rfl⟩⟩
    have I1 : Inv X pins σ (upd H s.heap.objs.size (.tup [.int (i : Nat), x])) { s with heap := h'', toks := tk + 1 } :=
      I.turnedNew (ch := [e, it]) (fun b ob hb q => (sb.2 b (fun z => hb (by simp [z]))).trans (hk b ob (fun z => hb (by simp [z])) (fun z => hb (by simp [z])) q)) hf (Nat.le_refl _) new
    refine ⟨.ref s.heap.objs.size, _, I1, rfl, ⟨_, x, rfl, I.hok.fresh (Nat.le_refl _), rfl, fun ys hy => by rw [I.tuple_inj hy hq]; exact hx⟩, ⟨⟨u', ?_⟩, hit'.at fun o q => (sb.2 it (Ne.symm hne)).trans q, hne, hai, hae⟩, fun b hb => ?_⟩
    · have e1 : ((i + 1 : Nat) : Int) = (i : Int) + 1 := by omega
      rw [e1]; exact he'
    · have hb' : b < s.heap.objs.size := by
        have e' : b = e ∨ b = it := by simpa using hb
        rcases e' with z | z
        · rw [z]; exact hel
        · rw [z]; exact hil
      rw [upd_ne (Nat.ne_of_lt hb')]
      exact (hf b hb).1
  done := by
    intro X hP hw hK hc i pins s σ H E I hf st hg
    subst hP hw hK
    obtain ⟨⟨old, he⟩, hit, hne, hai, hae⟩ := st
    obtain ⟨xs, hq, hx⟩ := hg
    obtain ⟨its, rv, p, hz⟩ := I.tuple hq
    obtain ⟨f0, f1, f2, f3, f4, f5⟩ := hf it (by simp)
    have hl := rv.length
    exact dl_enum_endT (I.ok.hd hc) he hit p (by simp; omega) fun h' eb => ⟨rfl, I.turned (t' := s.toks) (fun b o hb q => eb b o hb q) f0 f1 f3 f4 f5⟩
  self := fun A i s Q E st h => let ⟨⟨_, he⟩, _⟩ := st; wpAny_pyIter_enum he h
theorem pi_enumT {X : Cx} {e : Expr} {ta : TA} {p pos tpos : Pos} {elts : List Expr} {kk : Nat} (hg : Gl X "enumerate") (hm : X.mg "enumerate" = none) (ha : PA X [e] ta) (hs : starEach [e] X.env = [(false, eval e X.env)] := by rfl) :
    PI X (.Tuple elts kk tpos) (.Call (.Name "enumerate" p) [e] [] pos) (fun σ H R => ta σ H fun vs H1 => ∃ a xs, vs = [.ref a] ∧ ((SqL X.K H1 a xs ∧ R (Ite X.K a) H1) ∨ (SqT X.K H1 a xs ∧ R (IteT X.K a) H1))) := by
  refine ⟨fun pins s σ H R I h => ?_⟩
  refine Call_ (ld_blt I hg hm boot_enumerate (PyProof.Rows.callWith_type1 (thn (ha.run pos pins s σ H _ I h) fun us s1 ⟨vs, H1, I1, r1, q1⟩ => ?_) hs rfl))
  obtain ⟨a, xs, ex, q1⟩ := q1
  subst ex
  cases r1 with
  | cons r rr =>
    cases rr
    cases r
    have fp : ∀ b ∈ [s1.heap.objs.size + 1, s1.heap.objs.size], FpOk X pins H1 b := fun b hb => by
      have e' : b = s1.heap.objs.size + 1 ∨ b = s1.heap.objs.size := by simpa using hb
      have hle : s1.heap.objs.size ≤ b := by
        rcases e' with z | z
        · rw [z]; exact Nat.le_add_right _ _
        · rw [z]; exact Nat.le_refl _
      exact I1.fpOk hle (I1.hok.fresh hle)
    rcases q1 with ⟨hq, q⟩ | ⟨hq, q⟩
    · obtain ⟨its, rv, p', hz⟩ := I1.list hq
      refine call_enumerate_list p'.isList fun h' he hit hsz hk => wpAny_pyIter_enum he ?_
      have I2 : Inv X pins σ H1 { s1 with heap := h' } := I1.kept (t' := s1.toks) hk
      exact ⟨s1.heap.objs.size + 1, [s1.heap.objs.size + 1, s1.heap.objs.size], _, _, H1, rfl, I2, turn_enum a (s1.heap.objs.size + 1) s1.heap.objs.size, ⟨⟨.none, he⟩, hit, Nat.succ_ne_self _⟩, fp, q⟩
    · obtain ⟨its, rv, p', hz⟩ := I1.tuple hq
      obtain ⟨o1, ho1, _⟩ := id p'
      have hal := Heap.lt_size ho1
      refine dl_call_enumB (begins_tuple a its.toArray) p' fun h' he ho hsz hk => wpAny_pyIter_enum he ?_
      have I2 : Inv X pins σ H1 { s1 with heap := h' } := I1.kept (t' := s1.toks) hk
      exact ⟨s1.heap.objs.size + 1, [s1.heap.objs.size + 1, s1.heap.objs.size], _, _, H1, rfl, I2, turn_enumT a (s1.heap.objs.size + 1) s1.heap.objs.size, ⟨⟨.none, he⟩, ⟨_, ho, rfl, rfl⟩, Nat.succ_ne_self _, Nat.ne_of_lt hal, Nat.ne_of_lt (Nat.lt_succ_of_lt hal)⟩, fp, q⟩
/-- (0, x), (1, y), .. -/
def enumD (ds : List D) : List D := ds.mapIdx fun i d => .tuple [.int (i : Nat), d]
theorem enumD_len (ds : List D) : (enumD ds).length = ds.length := by simp [enumD]
theorem enumD_at {ds : List D} {i : Nat} {d : D} (h : ds[i]? = some d) : (enumD ds)[i]? = some (.tuple [.int (i : Nat), d]) := by simp [enumD, h]
theorem sqT_new {K : PySem.W.Frag} {H : Hp} {T : Addr} {xs : List V} : SqT K (upd H T (.tup xs)) T xs := .inl (.inl upd_same)
theorem src_enum {K : PySem.W.Frag} {F : Hp} {a : Addr} {xs : List V} {ds : List D} (h : F a = some (.lst xs)) (r : RpAll K F xs ds) : SrcIs K F (enumD ds) (Ite K a) := fun F' H' ef eh i => by
  have hL : SqL K H' a xs := .inl (.inl (eh _ _ (ef _ _ h)))
  refine ⟨fun hi => ?_, fun hi => ⟨xs, hL, by rw [r.len, ← enumD_len]; exact hi⟩⟩
  rw [enumD_len] at hi
  obtain ⟨v, hv, rv⟩ := r.get (List.getElem?_eq_getElem hi)
  refine ⟨⟨xs, v, hL, hv⟩, fun x H'' ⟨T, y, hx, hT, hH, hy⟩ => ?_⟩
  subst hx; subst hH
  have ey := hy xs hL
  rw [hv] at ey; cases ey
  have g := GV.new (o := .tup [.int (i : Nat), v]) eh hT
  exact ⟨_, _, enumD_at (List.getElem?_eq_getElem hi), g, .tup sqT_new (.cons (.int _) (.cons ((rv.mono ef).mono g.ex) .nil))⟩
theorem src_enumT {K : PySem.W.Frag} {F : Hp} {a : Addr} {xs : List V} {ds : List D} (h : SqT K F a xs) (r : RpAll K F xs ds) : SrcIs K F (enumD ds) (IteT K a) := fun F' H' ef eh i => by
  have hL : SqT K H' a xs := ex_t eh (ex_t ef h)
  refine ⟨fun hi => ?_, fun hi => ⟨xs, hL, by rw [r.len, ← enumD_len]; exact hi⟩⟩
  rw [enumD_len] at hi
  obtain ⟨v, hv, rv⟩ := r.get (List.getElem?_eq_getElem hi)
  refine ⟨⟨xs, v, hL, hv⟩, fun x H'' ⟨T, y, hx, hT, hH, hy⟩ => ?_⟩
  subst hx; subst hH
  have ey := hy xs hL
  rw [hv] at ey; cases ey
  have g := GV.new (o := .tup [.int (i : Nat), v]) eh hT
  exact ⟨_, _, enumD_at (List.getElem?_eq_getElem hi), g, .tup sqT_new (.cons (.int _) (.cons ((rv.mono ef).mono g.ex) .nil))⟩
def dEnum (ra : RE) : RI := fun env Q => ra env fun R env1 => ∃ d ds, R = .val d ∧ seqD d = some ds ∧ Q (enumD ds) env1
theorem di_enum {X : Cx} {e : Expr} {ra : RE} {p pos tpos : Pos} {elts : List Expr} {kk : Nat} (hm : X.mg "enumerate" = none) (ha : DE X e ra) (hg : Gl X "enumerate" := by rfl) (hs : starEach [e] X.env = [(false, eval e X.env)] := by rfl) :
    DI X (.Tuple elts kk tpos) (.Call (.Name "enumerate" p) [e] [] pos) (dEnum ra) :=
  ⟨PI.imp (pi_enumT hg hm (pa_cons ha.run pa_nil hs) hs) fun σ H R ⟨G, ea, F, ad, env, S, q⟩ => ⟨G, ea, F, ad, env, S, ha.mono (fun Rv env1 ⟨d, ds, eR, es, q⟩ v F1 ad1 H1 g1 S1 r1 => by
    subst eR
    have r1' : Rp X.K F1 v d := r1
    cases r1' with
    | @lst a xs ds' h1 h2 =>
      cases es
      exact ⟨a, xs, rfl, .inl ⟨.inl (.inl (S1.fh _ _ h1)), q _ F1 ad1 H1 g1 S1 (src_enum h1 h2)⟩⟩
    | @tup a xs ds' h1 h2 =>
      cases es
      exact ⟨a, xs, rfl, .inr ⟨ex_t S1.fh h1, q _ F1 ad1 H1 g1 S1 (src_enumT h1 h2)⟩⟩
    | _ => cases es) q⟩,
   fun m h => ha.mono (fun R env1 ⟨d, ds, eR, es, q⟩ => ⟨d, ds, eR, es, m _ _ q⟩) h⟩
end Dl
/-! Dl10: sorted(..) of tuples of any lengths; sorted(set(..)). -/
namespace PySem.W
open PySem PySem.Calls PyProof.Rows SeqAt
section
variable {prog : Program} {w : World} {A : Around} {s : Shared}
def neD : PyData → Bool
  | .tuple (_ :: _) => true
  | _ => false
theorem dl_firsts {M : Model} {E : Value → Shared → Prop} : ∀ (vs : List Value) (ds : List PyData) {Q : List (Option Value) → Shared → Prop}, EachIs (fun v d => ∃ as, Reads s.heap v d as) vs ds → (∀ d ∈ ds, ∃ xs, d = .tuple xs) →
    (∀ fs : List (Option Value), fs.map Option.isSome = ds.map neD → Q fs s) → wpAny M A (vs.mapM firstOfTuple') Q E s
  | _, _, Q, .nil, _, h => by rw [List.mapM_nil]; exact wpAny_pure (h [] rfl)
  | _, _, Q, .cons (a := v) (b := d) (as := vs) (bs := ds) ⟨as, r⟩ t, ht, h => by
    obtain ⟨xs, rfl⟩ := ht d List.mem_cons_self
    cases r with
    | @tuple a o vs' n _ _ ho hc hd hr =>
      rw [List.mapM_cons]
      refine wpAny_bind ?_
      rw [kas_first_eq]
      refine wpAny_bind (Looks.here (show Looks M s.heap (typeOf (.ref a)) o.cls from (Looks.ld ho).andThen .now) ?_)
      rw [hc, if_neg (by first | decide | simp)]
      refine wpAny_bind (listItems_at ho hd (wpAny_pure ?_))
      refine wpAny_bind (dl_firsts vs ds (Q := fun bs s' => wpAny M A (pure (vs'[0]? :: bs)) Q E s') t (fun d hd => ht d (List.mem_cons_of_mem _ hd)) fun fs hfs => wpAny_pure (h _ ?_))
      rw [List.map_cons, List.map_cons, hfs]
      congr 1
      have e : vs'[0]? = vs'.toList[0]? := by simp
      rw [e]
      cases xs with
      | nil =>
        have : vs'.toList = [] := by cases q : vs'.toList with
          | nil => rfl
          | cons _ _ => rw [q] at hr; cases hr
        rw [this]; rfl
      | cons x xs =>
        cases q : vs'.toList with
        | nil => rw [q] at hr; cases hr
        | cons _ _ => rfl
theorem dl_oneLt_tup {xs ys : List PyData} {a b : Value} {as bs : List Addr} {Q : Bool → Shared → Prop} {E : Value → Shared → Prop} (ra : Reads s.heap a (.tuple xs) as) (rb : Reads s.heap b (.tuple ys) bs) (hal : alikeAll xs ys = true)
    (hu : A.units + min (PyData.tuple xs).depth (PyData.tuple ys).depth < cLine) (hq : Q (dataLt (.tuple xs) (.tuple ys)) s) : wpAny (model prog w) A (oneLt' true a b) Q E s := by
  cases ra with
  | @tuple l o vs n _ as₁ h1 h2 h3 h4 =>
    cases rb with
    | @tuple l' o' vs' n' _ bs₁ k1 k2 k3 k4 =>
      have n1 : vs.size = xs.length := by simpa using SeqAt.ReadsAll.length _ _ _ h4
      have n2 : vs'.size = ys.length := by simpa using SeqAt.ReadsAll.length _ _ _ k4
      obtain ⟨cls, dd, data, sl⟩ := o
      obtain ⟨cls2, dd2, data2, sl2⟩ := o'
      simp only at h2 h3 k2 k3
      subst h2 h3 k2 k3
      rw [dataLt_tuple, ← firstLt_toks xs ys hal, ← n1, ← n2] at hq
      rw [oneLt'_eq]
      simp only [if_true]
      refine wpAny_bind (wpAny_cRoomFor (room_here hu) ?_)
      refine wpAny_bind (wpAny_callSpecialIfBound?_slot (T := "tuple") ⟨_, h1, rfl⟩ F.slot_tuple_lt (call_meets F.slot_tuple_lt ⟨_, h1, rfl⟩ F.entry_tuple_lt (F.args_tuple_lt_2 _ _)
        (SeqAt.tuple_ltAt l l' vs vs' n n' dd dd2 sl sl2 (pairEq xs ys) (fun j => dataLt (xs.getD j .none) (ys.getD j .none))) ⟨h1, k1, fun j j1 j2 => ?_, fun j j1 j2 hj => ?_, ?_⟩))
      · have := eqAt_alikeAll xs ys A.in1 s vs.toList vs'.toList _ _ h4 k4 hal (room_in hu) j (by simpa using j1) (by simpa using j2)
        simpa using this
      · have := rcLt_alikeAll xs ys A.in1 s vs.toList vs'.toList _ _ h4 k4 hal (room_in hu) j (by simpa using j1) (by simpa using j2) hj
        simpa using this
      · exact wpAny_truthy_bool hq
/-- tuples that read as alike data, the empty one among them, can be sorted -/
theorem SortsAt.tups {vs : List Value} {ds : List PyData} (e : EachIs (fun v d => ∃ as, Reads s.heap v d as) vs ds) (hal : AllAlike ds) (ht : ∀ d ∈ ds, ∃ xs, d = .tuple xs) (hu : ∀ d, d ∈ ds → A.units + d.depth < cLine) : SortsAt prog w A s (dataKind s.heap ds) vs := by
  by_cases hne : ∀ d, d ∈ ds → ∃ x r, d = .tuple (x :: r)
  · exact SortsAt.data e hal (.inl hne) hu
  have room : ∀ {d d' : PyData}, d ∈ ds → A.units + min d.depth d'.depth < cLine := fun {d d'} hd => Nat.lt_of_le_of_lt (Nat.add_le_add_left (Nat.min_le_left _ _) _) (hu d hd)
  refine ⟨fun v hv => ?_, ?_⟩
  · obtain ⟨d, hd, as, r⟩ := e.left v hv
    exact ⟨_, dataKind_some hal hd r⟩
  have hone : ∃ d ∈ ds, neD d = false := by
    refine Classical.byContradiction fun hc => hne fun d hd => ?_
    obtain ⟨xs, rfl⟩ := ht d hd
    cases xs with
    | nil => exact absurd ⟨_, hd, rfl⟩ hc
    | cons x r => exact ⟨x, r, rfl⟩
  have hall : ∀ fs : List (Option Value), fs.map Option.isSome = ds.map neD → ¬ (fs.toArray.all fun x => x.isSome) = true := fun fs hf h => by
    obtain ⟨d, hd, hn⟩ := hone
    have hm : false ∈ fs.map Option.isSome := by rw [hf, ← hn]; exact List.mem_map.mpr ⟨d, hd, rfl⟩
    obtain ⟨f, hf1, hf2⟩ := List.mem_map.mp hm
    rw [List.all_toArray, List.all_eq_true] at h
    rw [h f hf1] at hf2
    cases hf2
  cases ds with
  | nil => exact absurd (fun d hd => by cases hd) hne
  | cons d₀ ds₀ =>
    by_cases h0 : neD d₀ = true
    · refine ⟨general', ?_, fun h2 E Q hq => ?_⟩
      · intro E x y a b Q ha hb hq
        obtain ⟨d, as, hd, ra, rfl⟩ := dataKind_inv ha
        obtain ⟨d', as', hd', rb, rfl⟩ := dataKind_inv hb
        obtain ⟨xs, rfl⟩ := ht d hd
        exact oneLt_alike (f := false) (fun z => nomatch z) ra rb (hal _ hd _ hd') (by intro z; cases z) (room hd) hq
      · rw [kat_kind_eq, List.mapM_toArray, map_eq_pure_bind]
        refine wpAny_bind (wpAny_bind (dl_firsts vs _ e ht fun fs hfs => wpAny_pure ?_))
        rw [if_neg (hall fs hfs)]
        have hf0 : ((fs.toArray[0]?).bind id).isSome = true := by
          cases fs with
          | nil => cases hfs
          | cons f fs =>
            rw [List.map_cons, List.map_cons, h0] at hfs
            have := (List.cons.inj hfs).1
            simpa using this
        rw [if_pos hf0]
        exact wpAny_pure hq
    · refine ⟨oneType', ?_, fun h2 E Q hq => ?_⟩
      · intro E x y a b Q ha hb hq
        obtain ⟨d, as, hd, ra, rfl⟩ := dataKind_inv ha
        obtain ⟨d', as', hd', rb, rfl⟩ := dataKind_inv hb
        obtain ⟨xs, rfl⟩ := ht d hd
        obtain ⟨ys, rfl⟩ := ht d' hd'
        rw [keyLt'_oneType]
        exact dl_oneLt_tup ra rb (by simpa [alike] using hal _ hd _ hd') (room hd) hq
      · rw [kat_kind_eq, List.mapM_toArray, map_eq_pure_bind]
        refine wpAny_bind (wpAny_bind (dl_firsts vs _ e ht fun fs hfs => wpAny_pure ?_))
        rw [if_neg (hall fs hfs)]
        have hf0 : ¬ ((fs.toArray[0]?).bind id).isSome = true := by
          cases fs with
          | nil => cases hfs
          | cons f fs =>
            rw [List.map_cons, List.map_cons] at hfs
            have := (List.cons.inj hfs).1
            intro z
            have z' : f.isSome = true := by simpa using z
            rw [z'] at this
            exact h0 this.symm
        rw [if_neg hf0]
        have hT : ∀ v ∈ vs, Looks (model prog w) s.heap (typeOf v) (Value.type "tuple") := fun v hv => by
          obtain ⟨d, hd, as, r⟩ := e.left v hv
          obtain ⟨xs, rfl⟩ := ht d hd
          exact looks_reads r
        rw [oneTypeOnly'_eq, List.mapM_toArray, map_eq_pure_bind]
        refine wpAny_bind (wpAny_bind (wpAny_bind (kas_mapM (r := Value.type "tuple") _ (fun v hv Q' hq => (hT v hv).here hq) (wpAny_pure ?_))))
        have hv0 : vs ≠ [] := by rintro rfl; cases e
        obtain ⟨v0, vs', rfl⟩ : ∃ v vs', vs = v :: vs' := by
          cases vs with
          | nil => exact absurd rfl hv0
          | cons v vs' => exact ⟨v, vs', rfl⟩
        have hall2 : ((List.map (fun _ => Value.type "tuple") (v0 :: vs')).toArray.all fun x => x == Value.type "tuple") = true := by
          simp only [List.all_toArray, List.all_map, List.all_eq_true]
          intro _ _
          exact beq_self_eq_true _
        have h0' : (List.map (fun _ => Value.type "tuple") (v0 :: vs')).toArray[0]? = some (Value.type "tuple") := by simp
        rw [h0']
        simp only [hall2, if_true]
        exact wpAny_pure (wpAny_pure hq)
end
end PySem.W
/-! Dl11: sorted(set(xs)), xs a list of tuples of ints. -/
namespace PySem.W
open PySem PySem.Calls PyProof.Rows
theorem dataLe_tups {β : Type} (x : β → List Int) : dataLe false (fun b => .tuple ((x b).map .int)) = fun p q => decide (x p ≤ x q) := by
  funext p q
  show (!dataLt (.tuple ((x q).map .int)) (.tuple ((x p).map .int))) = _
  rw [dataLt_tuple]
  show (!rowLt ((x q).map .int) ((x p).map .int)) = _
  rw [dataLt_ints]
  by_cases h : x q < x p
  · have h' : ¬ x p ≤ x q := fun r => List.not_lt.mpr r h
    simp [h, h']
  · have h' : x p ≤ x q := List.not_lt.mp h
    simp [h, h']
end PySem.W
namespace L2
open PySem PySem.Spec PyProof.Rows PySem.W
section
variable {P : Program} {w : World} {A : Around} {E : Value → Shared → Prop} {s : Shared}
theorem reads_isT {h : Heap} {k : List Int} {b : Addr} (x : IsT P w h k b) : ∃ as, Reads h (.ref b) (.tuple (k.map .int)) as := by
  obtain ⟨o, items, n, ho, hc, hd, hi⟩ := x
  have : ∀ {k : List Int} {vs : List Value}, ItemsAre (intKind P w) k vs → ∃ as, ReadsAll h vs (k.map .int) as := by
    intro k vs hi
    induction hi with
    | nil => exact ⟨_, .nil⟩
    | @cons k0 v ks vs h1 _ ih =>
      obtain ⟨t, rfl⟩ := Value.isInt_shape h1
      obtain ⟨as, r⟩ := ih
      exact ⟨_, .cons (.int k0 t) r⟩
  obtain ⟨as, r⟩ := this hi
  exact ⟨as, .tuple ho hc hd r⟩
theorem alike_tups (L : List (Addr × List Int)) : AllAlike (L.map fun q => PyData.tuple (q.2.map .int)) := AllAlike.of fun b b' => by
  simp only [alike]
  exact alike_ints _ _
theorem sorted_setD {a : Addr} {L : List (Addr × List Int)} {es : Array (Int × Value)} {ep : Nat} {t : SetTable} {Q : Value → Shared → Prop} (R : SetTR P w s.heap a L es ep t) (hh : A.handled = none) (hu : A.units + 4 < cLine)
    (hQ : ∀ s' p (out : Array Value) (c : Nat) (L' : List (Addr × List Int)), (∀ b o, s.heap.get? b = some o → s'.heap.get? b = some o) → s'.gens = s.gens → s'.os = s.os → s.heap.objs.size ≤ p →
      s'.heap.get? p = some (seqObj "list" out c) → out.toList = L'.map (fun q => Value.ref q.1) → L'.Perm L → L'.Pairwise (fun q r => q.2 ≤ r.2) → Q (.ref p) s') :
    wpAny (model P w) A (call (.builtin "sorted") [.ref a]) Q E s := by
  obtain ⟨o, ho, hex, hd⟩ := R.ob
  have hsz := R.size
  have hfew := R.few
  refine Calls.call_function_entry kind_sorted plain_sorted entry_sorted (args_sorted1 _) ?_
  unfold Builtin.«sorted»
  refine wpAny_bind (m := checkCount "sorted" 1 1 _) (wpAny_pure ?_)
  refine wpAny_bind (collect_set (A := A.in1) hh ⟨o, ho, hex.1, hd⟩ R.fits (by unfold scanBound; omega) R.tab.ris R.led fun s1 vs k1 hz g1 o1 pm => ?_)
  have hes : es.toList.map (·.2) = L.map fun q => Value.ref q.1 := by
    rw [R.rows]
    unfold rowsOf
    rw [List.map_map] <;> rfl
  rw [hes] at pm
  have ord : ∀ vs : List Value, (∀ v ∈ vs, ∃ q ∈ L, v = Value.ref q.1) → ∃ L1 : List (Addr × List Int), vs = L1.map (fun q => Value.ref q.1) ∧ ∀ q ∈ L1, q ∈ L := by
    intro vs
    induction vs with
    | nil => intro _; exact ⟨[], rfl, fun q hq => (by cases hq)⟩
    | cons v vs ih =>
      intro hv
      obtain ⟨q, hq, e⟩ := hv v List.mem_cons_self
      obtain ⟨L1, e1, hs⟩ := ih fun u hu => hv u (List.mem_cons_of_mem _ hu)
      refine ⟨q :: L1, by rw [List.map_cons, e, e1], fun r hr => ?_⟩
      rcases List.mem_cons.mp hr with z | z
      · rw [z]; exact hq
      · exact hs r z
  have one : ∀ q ∈ L, ∀ r ∈ L, q.1 = r.1 → q = r := fun q hq r hr e => by
    have a1 := R.tup q hq
    have a2 := R.tup r hr
    rw [e] at a1
    have e2 : q.2 = r.2 := a1.inj a2
    exact Prod.ext e e2
  have perm_of : ∀ L1 : List (Addr × List Int), (∀ q ∈ L1, q ∈ L) → (L1.map (fun q => Value.ref q.1)).Perm (L.map fun q => Value.ref q.1) → L1.Perm L := by
    intro L1 hs pm1
    have nL : L.Nodup := nodup_of_map R.nd
    have nref : (L.map fun q => Value.ref q.1).Nodup := by
      refine List.pairwise_map.mpr (List.Pairwise.imp_of_mem (fun {q r} hq hr hne e => ?_) nL)
      injection e with e
      exact hne (one q hq r hr e)
    have n1 : L1.Nodup := nodup_of_map (pm1.nodup_iff.mpr nref)
    refine (List.perm_ext_iff_of_nodup n1 nL).mpr fun q => ⟨hs q, fun hq => ?_⟩
    have hm : Value.ref q.1 ∈ L1.map (fun q => Value.ref q.1) := pm1.mem_iff.mpr (List.mem_map.mpr ⟨q, hq, rfl⟩)
    obtain ⟨r, hr, e⟩ := List.mem_map.mp hm
    injection e with e
    rw [← one r (hs r hr) q hq e]
    exact hr
  have hvl : vs.length < 64 := by rw [pm.length_eq, List.length_map]; exact hfew
  obtain ⟨L1, e1, hs1⟩ := ord vs fun v hv => by
    obtain ⟨q, hq, e⟩ := List.mem_map.mp (pm.mem_iff.mp hv)
    exact ⟨q, hq, e.symm⟩
  have p1 : L1.Perm L := perm_of L1 hs1 (e1 ▸ pm)
  refine wpAny_bind (wpAny_newList ?_ (by rw [sizeLine_eq]; omega))
  have hoL : (s1.heap.push (seqObj "list" vs.toArray 0)).get? s1.heap.objs.size = some (seqObj "list" vs.toArray 0) := Heap.get?_push_size _ rfl
  have tk : ∀ q ∈ L1, IsT P w (sortingHeap (s1.heap.push (seqObj "list" vs.toArray 0)) s1.heap.objs.size vs) q.2 q.1 := fun q hq => isT_keep (R.tup q (hs1 q hq)) fun b u e => by
    have e' := k1 b u e
    exact sortingHeap_old (Nat.ne_of_lt (Heap.lt_size e')) (Heap.get?_push_of_some _ e')
  have eR : EachIs (fun v (q : Addr × List Int) => v = Value.ref q.1) vs L1 := by
    rw [e1]
    clear e1 p1 tk hs1 pm hoL
    induction L1 with
    | nil => exact .nil
    | cons q L1 ih => exact .cons rfl ih
  have er : EachIs (fun v (q : Addr × List Int) => ∃ as, Reads (sortingHeap (s1.heap.push (seqObj "list" vs.toArray 0)) s1.heap.objs.size vs) v (PyData.tuple (q.2.map .int)) as) vs L1 := by
    refine (each_mem eR).mono fun v q h => ?_
    obtain ⟨h1, h2⟩ := h
    rw [h1]
    exact reads_isT (tk q h2)
  have S : SortsAt P w A.in1.in1 { s1 with heap := sortingHeap (s1.heap.push (seqObj "list" vs.toArray 0)) s1.heap.objs.size vs } (dataKind (sortingHeap (s1.heap.push (seqObj "list" vs.toArray 0)) s1.heap.objs.size vs) (L1.map fun q => PyData.tuple (q.2.map .int))) vs :=
    SortsAt.tups (s := { s1 with heap := sortingHeap (s1.heap.push (seqObj "list" vs.toArray 0)) s1.heap.objs.size vs }) (each_map (R := fun v d => ∃ as, Reads (sortingHeap (s1.heap.push (seqObj "list" vs.toArray 0)) s1.heap.objs.size vs) v d as) (fun q : Addr × List Int => PyData.tuple (q.2.map .int)) er) (alike_tups L1)
      (fun d hd => by obtain ⟨q, _, rfl⟩ := List.mem_map.mp hd; exact ⟨_, rfl⟩) (fun d hd => by
        obtain ⟨q, _, rfl⟩ := List.mem_map.mp hd
        have : (PyData.tuple (q.2.map .int)).depth = 1 := by simp only [PyData.depth, depth_ints]
        rw [this]
        show A.units + 1 + 1 + 1 < cLine
        omega)
  have hout := sortVals_data false eR er (alike_tups L1)
  have hbs : sortVals (dataKind (sortingHeap (s1.heap.push (seqObj "list" vs.toArray 0)) s1.heap.objs.size vs) (L1.map fun q => PyData.tuple (q.2.map .int))) false vs vs = (L1.mergeSort (dataLe false fun q => PyData.tuple (q.2.map .int))).map fun q => Value.ref q.1 := by
    generalize sortVals _ _ _ _ = u at hout
    generalize L1.mergeSort _ = v at hout
    clear S er eR tk e1 p1 hs1
    induction hout with
    | nil => rfl
    | cons h _ ih => rw [List.map_cons, h, ih]
  refine wpAny_bind (wpAny_holding (wpAny_call_entry slot_list_sort ⟨_, hoL, rfl⟩ entry_list_sort (list_sort_vals (s := { s1 with heap := s1.heap.push (seqObj "list" vs.toArray 0) }) hoL S (by rw [sizeLine_eq]; omega) ⟨_, rfl, ?_⟩) (args_list_sort _)))
  rw [hbs]
  obtain ⟨c, hc⟩ := sortedHeap_at (vs := vs) (out := ((L1.mergeSort (dataLe false fun q => PyData.tuple (q.2.map .int))).map fun q => Value.ref q.1).toArray) hoL
  have pw : (L1.mergeSort (dataLe false fun q => PyData.tuple (q.2.map .int))).Pairwise fun q r => q.2 ≤ r.2 := by
    have := sort_pairwise (sortLe_total (listOrd itemOrd) false (fun b : Addr × List Int => keyToks (PyData.tuple (b.2.map .int)))) L1
    refine this.imp fun {q r} h => ?_
    have e : sortLe (listOrd itemOrd) false (fun b : Addr × List Int => keyToks (PyData.tuple (b.2.map .int))) q r = decide (q.2 ≤ r.2) := by
      have := dataLe_tups (β := Addr × List Int) (fun b => b.2)
      exact congrFun (congrFun this q) r
    rw [e] at h
    exact of_decide_eq_true h
  refine wpAny_pure ⟨_, rfl, hQ _ s1.heap.objs.size _ c (L1.mergeSort (dataLe false fun q => PyData.tuple (q.2.map .int))) (fun b u e => ?_) g1 o1 hz hc (by simp) ((List.mergeSort_perm _ _).trans p1) pw⟩
  have q := k1 b u e
  have hlt := Heap.lt_size q
  show (sortedHeap (s1.heap.push (seqObj "list" vs.toArray 0)) s1.heap.objs.size vs _).get? b = some u
  rw [sortedHeap_old (Nat.ne_of_lt hlt) (by rw [size_push']; exact Nat.lt_succ_of_lt hlt)]
  exact Heap.get?_push_of_some _ q
end
end L2
namespace L2
open PySem PySem.Spec PyProof.Rows PySem.W
section
variable {X : Cx}
def rSortedD (K : PySem.W.Frag) (P : Program) (w : World) : List V → Hp → VK → Prop := fun vs H Q => ∃ (a : Addr) (L : List (Addr × List Int)), vs = [V.ref a] ∧ H a = some (SetTO P w a L) ∧ (∀ p ∈ L, SqT K H p.1 (p.2.map V.int)) ∧
  ∀ (L' : List (Addr × List Int)) (p : Addr), L'.Perm L → (L'.map (·.2)).Nodup → L'.length < 64 → L'.Pairwise (fun q r => q.2 ≤ r.2) → H p = none → Q (.ref p) (upd H p (.lst (L'.map fun q => V.ref q.1)))
theorem cr_sortedD (hc : X.calm = true) (hu : X.A.units + 64 < cLine) : CallR X (.builtin "sorted") (rSortedD X.K X.prog X.w) := by
  intro pins s σ H vs us Q I r h
  obtain ⟨a, L, rfl, ha, hk, q⟩ := h
  have R0 : SetT0 X.prog X.w s.heap a L := (I.hok a _ ha).1
  obtain ⟨es, ep, t, R⟩ := R0.full fun p hp => I.isT (hk p hp)
  rw [Vals.ref1 r]
  refine sorted_setD R (I.ok.hd hc) (by omega) fun s' p out c L' k g o hp hg hout pm pw => ?_
  have hfew : L'.length < 64 := by rw [pm.length_eq]; exact R.few
  have hlen : (L'.map fun q => V.ref q.1).length ≤ sizeLine := by rw [List.length_map, sizeLine_eq]; omega
  have hn : H p = none := I.hok.fresh hp
  have hv : Vals (L'.map fun q => V.ref q.1) out.toList := by rw [hout]; exact vals_of_refs L'
  have J : Inv X pins σ (upd H p (.lst (L'.map fun q => V.ref q.1))) { s with heap := s'.heap, gens := s'.gens, drawn := s'.drawn, toks := s'.toks } :=
    I.call (ch := []) (Un.laid k hp hn) (I.hok.laid k hp ⟨hlen, out.toList, c, hv, hg⟩) (by rw [g]; exact I.bare) (fun _ z => nomatch z)
  have e : s' = { s with heap := s'.heap, gens := s'.gens, drawn := s'.drawn, toks := s'.toks } := by
    cases s'
    cases s
    cases o
    rfl
  rw [e]
  exact ⟨.ref p, _, J, rfl, q L' p pm ((pm.map (·.2)).nodup_iff.mpr R.nd) hfew pw hn⟩
end
end L2
namespace Dl
open PySem L2
abbrev tI (ns : List Int) : D := .tuple (ns.map PyData.int)
/-- out is the set of kss, ascending -/
structure SSet (kss out : List (List Int)) : Prop where
  nd : out.Nodup
  mem : ∀ k, k ∈ out ↔ k ∈ kss
  asc : out.Pairwise (· ≤ ·)
def dSrtSet (ra : RE) : RN := fun env Q => ra env fun R env1 => ∃ kss : List (List Int), R.d env1 = some (.list (kss.map tI)) ∧ kss.length < 64 ∧ ∀ out, SSet kss out → Q (.lst (out.map tI)) env1
theorem rp_tups {K : PySem.W.Frag} {F : Hp} : ∀ {xs : List V} {kss : List (List Int)}, RpAll K F xs (kss.map tI) → ∃ ks : List (Addr × List Int), xs = ks.map (fun p => V.ref p.1) ∧ ks.map (·.2) = kss ∧ ∀ p ∈ ks, SqT K F p.1 (p.2.map V.int)
  | _, [], h => by cases h; exact ⟨[], rfl, rfl, fun p hp => by cases hp⟩
  | _, k :: kss, h => by
    rw [List.map_cons] at h
    cases h with
    | cons h1 t =>
      obtain ⟨ks, e1, e2, e3⟩ := rp_tups t
      cases h1 with
      | @tup a xs _ q r =>
        rw [r.ints] at q
        refine ⟨(a, k) :: ks, by rw [e1]; rfl, by rw [List.map_cons, e2], fun p hp => ?_⟩
        rcases List.mem_cons.mp hp with rfl | hp
        · exact q
        · exact e3 p hp
theorem tups_rp {K : PySem.W.Frag} {F : Hp} : ∀ {ks : List (Addr × List Int)}, (∀ p ∈ ks, SqT K F p.1 (p.2.map V.int)) → RpAll K F (ks.map fun p => V.ref p.1) ((ks.map (·.2)).map tI)
  | [], _ => .nil
  | p :: ks, h => by
    have hi : ∀ l : List Int, RpAll K F (l.map V.int) (l.map PyData.int) := fun l => by
      induction l with
      | nil => exact .nil
      | cons n l ih => exact .cons (.int n) ih
    exact .cons (.tup (h p List.mem_cons_self) (hi p.2)) (tups_rp fun q hq => h q (List.mem_cons_of_mem _ hq))
section
variable {X : Cx} {e : Expr} {ra : RE} {p p2 pos pos2 : Pos}
theorem dn_srtSet (hmS : X.mg "sorted" = none) (hmT : X.mg "set" = none) (hc : X.calm = true) (hu : X.A.units + 64 < cLine) (ha : DE X e ra) (hg : Gl X "sorted" := by rfl) (hgT : Gl X "set" := by rfl)
    (he : starEach [e] X.env = (false, eval e X.env) :: starEach [] X.env := by rfl) (hpl : (backTo pos2 (starEach [] X.env)).any (·.1) = false := by rfl)
    (he2 : starEach [.Call (.Name "set" p2) [e] [] pos2] X.env = (false, eval (.Call (.Name "set" p2) [e] [] pos2) X.env) :: starEach [] X.env := by rfl) (hpl2 : (backTo pos (starEach [] X.env)).any (·.1) = false := by rfl) :
    DN X (.Call (.Name "sorted" p) [.Call (.Name "set" p2) [e] [] pos2] [] pos) (dSrtSet ra) :=
  ⟨PE.imp (pe_callB (cr_sortedD hc hu) hg hmS (by decide +kernel) (pa_cons (pe_callTy (cr_setOfT hc hu) hgT hmT (by decide +kernel) (pa_cons ha.run pa_nil he) (by decide) (by decide) he hpl) pa_nil he2) (by decide) (by decide) he2 hpl2) fun σ H Q ⟨G, ea, F, ad, env, S, q⟩ =>
    ⟨G, ea, F, ad, env, S, ha.mono (fun R env1 ⟨kss, eR, hl, q⟩ v F1 ad1 H1 g1 S1 r1 => by
      obtain ⟨a, xs, rfl, h1, h2⟩ := S1.now r1 eR
      obtain ⟨ks, rfl, rfl, h3⟩ := rp_tups h2
      refine ⟨a, ks, rfl, .inl (.inl h1), fun p hp => ex_t S1.fh (h3 p hp), by simpa using hl, fun b L hb hL1 hL2 => ?_⟩
      have ge : Ex H1 (upd H1 b (SetTO X.prog X.w b L)) := Ex.new hb
      refine ⟨b, L, rfl, upd_same, fun p hp => ex_t ge (ex_t S1.fh (h3 p (hL1 p hp))), fun L' p pm nd hl' pw hp => ?_⟩
      have S2 := S1.newM (o := SetTO X.prog X.w b L) hb
      have hm : MuIs X.K F1 (upd (upd H1 b (SetTO X.prog X.w b L)) p (.lst (L'.map fun q => V.ref q.1))) p (.lst ((L'.map (·.2)).map tI)) :=
        ⟨_, upd_same, tups_rp fun q hq => h3 q (hL1 q (pm.mem_iff.mp hq))⟩
      refine q (L'.map (·.2)) ⟨nd, fun k => ?_, List.pairwise_map.mpr pw⟩ p F1 ad1 _ ((g1.trans (Grow.newM hb)).trans (Grow.newM hp)) (S2.newM hp) (S2.fresh hp (fun a' ha' => (Grow.newM (F := F1) (o := SetTO X.prog X.w b L) hb).dom a' (g1.dom a' ha')) hm)
      constructor
      · intro hk
        obtain ⟨q, hq, rfl⟩ := List.mem_map.mp hk
        exact List.mem_map.mpr ⟨q, hL1 q (pm.mem_iff.mp hq), rfl⟩
      · intro hk
        obtain ⟨q, hq, rfl⟩ := List.mem_map.mp hk
        exact (pm.map (·.2)).mem_iff.mpr (hL2 q hq)) q⟩,
   fun m h => ha.mono (fun R env1 ⟨kss, eR, hl, q⟩ => ⟨kss, eR, hl, fun out ho => m _ _ (q out ho)⟩) h⟩
end
end Dl
/-! Dl12: tuple(range(..)), list(range(..)); the script; names for the generator; what is never reached. -/
namespace Dl
open PySem L2
theorem boot_len_ : bootBuiltins "len" = some (.builtin "len") := by decide +kernel
theorem boot_abs_ : bootBuiltins "abs" = some (.builtin "abs") := by decide +kernel
theorem boot_max_ : bootBuiltins "max" = some (.builtin "max") := by decide +kernel
theorem boot_min_ : bootBuiltins "min" = some (.builtin "min") := by decide +kernel
theorem boot_sum_ : bootBuiltins "sum" = some (.builtin "sum") := by decide +kernel
theorem boot_all_ : bootBuiltins "all" = some (.builtin "all") := by decide +kernel
theorem boot_any_ : bootBuiltins "any" = some (.builtin "any") := by decide +kernel
theorem boot_int_ : bootBuiltins "int" = some (.type "int") := by decide +kernel
theorem boot_tuple_ : bootBuiltins "tuple" = some (.type "tuple") := by decide +kernel
theorem boot_list_ : bootBuiltins "list" = some (.type "list") := by decide +kernel
theorem boot_sorted_ : bootBuiltins "sorted" = some (.builtin "sorted") := by decide +kernel
section
variable {X : Cx} {a b e : Expr} {ra rb : RE} {p p2 pos pos2 : Pos} {T : TE}
/-! ### ranges as tuples, lists -/
def dTupRg1 (ra : RE) : RE := fun env Q => ra env fun R env1 => ∃ n : Int, R = .val (.int n) ∧ (0 ≤ n ∧ n ≤ 10000) ∧ Q (.val (.tuple (rgD 0 n.toNat))) env1
def dTupRg2 (ra rb : RE) : RE := fun env Q => ra env fun R env1 => rb env1 fun R2 env2 => ∃ i j : Int, R = .val (.int i) ∧ R2 = .val (.int j) ∧ (0 ≤ i ∧ i ≤ 10000 ∧ 0 ≤ j ∧ j ≤ 10000) ∧ Q (.val (.tuple (rgD i (j - i).toNat))) env2
def dLstRg1 (ra : RE) : RN := fun env Q => ra env fun R env1 => ∃ n : Int, R = .val (.int n) ∧ (0 ≤ n ∧ n ≤ 10000) ∧ Q (.lst (rgD 0 n.toNat)) env1
def dLstRg2 (ra rb : RE) : RN := fun env Q => ra env fun R env1 => rb env1 fun R2 env2 => ∃ i j : Int, R = .val (.int i) ∧ R2 = .val (.int j) ∧ (0 ≤ i ∧ i ≤ 10000 ∧ 0 ≤ j ∧ j ≤ 10000) ∧ Q (.lst (rgD i (j - i).toNat)) env2
theorem rg0 (n : Int) : (n - 0).toNat = n.toNat := by rw [Int.sub_zero]
theorem de_tupRg1 (hm : X.mg "tuple" = none) (hm2 : X.mg "range" = none) (hc : X.calm = true) (ha : DE X a ra) (hg : Gl X "tuple" := by rfl) (hg2 : Gl X "range" := by rfl) (na : starEach [a] X.env = (false, eval a X.env) :: starEach [] X.env := by rfl)
    (na2 : starEach [.Call (.Name "range" p2) [a] [] pos2] X.env = (false, eval (.Call (.Name "range" p2) [a] [] pos2) X.env) :: starEach [] X.env := by rfl) :
    DE X (.Call (.Name "tuple" p) [.Call (.Name "range" p2) [a] [] pos2] [] pos) (dTupRg1 ra) :=
  ⟨PE.imp (pe_tupRg hc hg hm (prg_1 hg2 hm2 ha.run na) na2) fun σ H Q ⟨G, ea, F, ad, env, S, q⟩ => ⟨G, ea, F, ad, env, S, ha.mono (fun R env1 ⟨n, eR, hn, q⟩ v F1 ad1 H1 g1 S1 r1 => by
    subst eR
    cases ris_int r1
    refine ⟨n, rfl, RgOk.of_le (Int.le_refl 0) (by omega) (by omega) hn.1, fun q' hq => ?_⟩
    have g := GV.new (o := .tup (rgV 0 n)) S1.fh hq
    refine q _ _ ad1 _ (g1.trans g.grow) (S1.gv g) ?_
    have := (rgV_rp (K := X.K) (F := upd F1 q' (.tup (rgV 0 n))) 0 n)
    rw [rg0] at this
    exact .tup (.inl (.inl upd_same)) this) q⟩,
   fun m h => ha.mono (fun R env1 ⟨n, eR, hn, q⟩ => ⟨n, eR, hn, m _ _ q⟩) h⟩
theorem dn_lstRg1 (hm : X.mg "list" = none) (hm2 : X.mg "range" = none) (hc : X.calm = true) (ha : DE X a ra) (hg : Gl X "list" := by rfl) (hg2 : Gl X "range" := by rfl) (na : starEach [a] X.env = (false, eval a X.env) :: starEach [] X.env := by rfl)
    (na2 : starEach [.Call (.Name "range" p2) [a] [] pos2] X.env = (false, eval (.Call (.Name "range" p2) [a] [] pos2) X.env) :: starEach [] X.env := by rfl) :
    DN X (.Call (.Name "list" p) [.Call (.Name "range" p2) [a] [] pos2] [] pos) (dLstRg1 ra) :=
  ⟨PE.imp (pe_listRg hc hg hm (prg_1 hg2 hm2 ha.run na) na2) fun σ H Q ⟨G, ea, F, ad, env, S, q⟩ => ⟨G, ea, F, ad, env, S, ha.mono (fun R env1 ⟨n, eR, hn, q⟩ v F1 ad1 H1 g1 S1 r1 => by
    subst eR
    cases ris_int r1
    refine ⟨n, rfl, RgOk.of_le (Int.le_refl 0) (by omega) (by omega) hn.1, fun q' hq => ?_⟩
    have hm : MuIs X.K F1 (upd H1 q' (.lst (rgV 0 n))) q' (.lst (rgD 0 n.toNat)) := by
      have := (rgV_rp (K := X.K) (F := F1) 0 n)
      rw [rg0] at this
      exact ⟨_, upd_same, this⟩
    exact q _ _ ad1 _ (g1.trans (Grow.newM hq)) (S1.newM hq) (S1.fresh hq g1.dom hm)) q⟩,
   fun m h => ha.mono (fun R env1 ⟨n, eR, hn, q⟩ => ⟨n, eR, hn, m _ _ q⟩) h⟩
theorem de_tupRg2 (hm : X.mg "tuple" = none) (hm2 : X.mg "range" = none) (hc : X.calm = true) (ha : DE X a ra) (hb : DE X b rb) (hg : Gl X "tuple" := by rfl) (hg2 : Gl X "range" := by rfl) (na : starEach [a, b] X.env = (false, eval a X.env) :: starEach [b] X.env := by rfl)
    (nb : starEach [b] X.env = (false, eval b X.env) :: starEach [] X.env := by rfl) (hp : (backTo pos2 (starEach [b] X.env)).any (·.1) = false := by rfl)
    (na2 : starEach [.Call (.Name "range" p2) [a, b] [] pos2] X.env = (false, eval (.Call (.Name "range" p2) [a, b] [] pos2) X.env) :: starEach [] X.env := by rfl) :
    DE X (.Call (.Name "tuple" p) [.Call (.Name "range" p2) [a, b] [] pos2] [] pos) (dTupRg2 ra rb) :=
  ⟨PE.imp (pe_tupRg hc hg hm (prg_2 hg2 hm2 ha.run hb.run na nb hp) na2) fun σ H Q ⟨G, ea, F, ad, env, S, q⟩ => ⟨G, ea, F, ad, env, S, ha.mono (fun R env1 q v F1 ad1 H1 g1 S1 r1 => ⟨G, ea, F1, ad1, env1, S1, hb.mono (fun R2 env2 ⟨i, j, eR, eR2, hn, qq⟩ w F2 ad2 H2 g2 S2 r2 => by
    subst eR; subst eR2
    cases ris_int r1
    cases ris_int r2
    refine ⟨i, j, rfl, rfl, RgOk.of_le hn.1 (by omega) (by omega) hn.2.2.1, fun q' hq => ?_⟩
    have g := GV.new (o := .tup (rgV i j)) S2.fh hq
    exact qq _ _ ad2 _ ((g1.trans g2).trans g.grow) (S2.gv g) (.tup (.inl (.inl upd_same)) (rgV_rp i j))) q⟩) q⟩,
   fun m h => ha.mono (fun R env1 q => hb.mono (fun R2 env2 ⟨i, j, eR, eR2, hn, q⟩ => ⟨i, j, eR, eR2, hn, m _ _ q⟩) q) h⟩
theorem dn_lstRg2 (hm : X.mg "list" = none) (hm2 : X.mg "range" = none) (hc : X.calm = true) (ha : DE X a ra) (hb : DE X b rb) (hg : Gl X "list" := by rfl) (hg2 : Gl X "range" := by rfl) (na : starEach [a, b] X.env = (false, eval a X.env) :: starEach [b] X.env := by rfl)
    (nb : starEach [b] X.env = (false, eval b X.env) :: starEach [] X.env := by rfl) (hp : (backTo pos2 (starEach [b] X.env)).any (·.1) = false := by rfl)
    (na2 : starEach [.Call (.Name "range" p2) [a, b] [] pos2] X.env = (false, eval (.Call (.Name "range" p2) [a, b] [] pos2) X.env) :: starEach [] X.env := by rfl) :
    DN X (.Call (.Name "list" p) [.Call (.Name "range" p2) [a, b] [] pos2] [] pos) (dLstRg2 ra rb) :=
  ⟨PE.imp (pe_listRg hc hg hm (prg_2 hg2 hm2 ha.run hb.run na nb hp) na2) fun σ H Q ⟨G, ea, F, ad, env, S, q⟩ => ⟨G, ea, F, ad, env, S, ha.mono (fun R env1 q v F1 ad1 H1 g1 S1 r1 => ⟨G, ea, F1, ad1, env1, S1, hb.mono (fun R2 env2 ⟨i, j, eR, eR2, hn, qq⟩ w F2 ad2 H2 g2 S2 r2 => by
    subst eR; subst eR2
    cases ris_int r1
    cases ris_int r2
    refine ⟨i, j, rfl, rfl, RgOk.of_le hn.1 (by omega) (by omega) hn.2.2.1, fun q' hq => ?_⟩
    have hm : MuIs X.K F2 (upd H2 q' (.lst (rgV i j))) q' (.lst (rgD i (j - i).toNat)) := ⟨_, upd_same, rgV_rp i j⟩
    exact qq _ _ ad2 _ ((g1.trans g2).trans (Grow.newM hq)) (S2.newM hq) (S2.fresh hq (fun a' ha' => g2.dom a' (g1.dom a' ha')) hm)) q⟩) q⟩,
   fun m h => ha.mono (fun R env1 q => hb.mono (fun R2 env2 ⟨i, j, eR, eR2, hn, q⟩ => ⟨i, j, eR, eR2, hn, m _ _ q⟩) q) h⟩
/-! ### the script -/
theorem ex_l {K : PySem.W.Frag} {H H' : Hp} {a : Addr} {xs : List V} (e : Ex H H') (h : SqL K H a xs) : SqL K H' a xs := by
  rcases h with h | h
  · exact Or.inl (ex_rd e h)
  · exact Or.inr h
variable {y : Str}
def dScrLen (i : Nat) : RE := fun env Q => ∃ ns, env.sl[i]? = some (.scr ns) ∧ Q (.val (.int (ns : List Int).length)) env
def dScrAt (i : Nat) (ra : RE) : RE := fun env Q => ∃ ns, env.sl[i]? = some (.scr ns) ∧ ra env fun R env1 => ∃ (n z : Int), R = .val (.int n) ∧ atI (ns : List Int) n = some z ∧ Q (.val (.int z)) env1
theorem de_scrLen (i : Nat) (hm : X.mg "len" = none) (hN : X.N[i]? = some y := by rfl) (hg : Gl X "len" := by rfl) (hv : Vis X.env.scope y := by first | exact Or.inl rfl | exact Or.inr (Or.inl rfl) | exact Or.inr (Or.inr rfl)) (hd : (y == ("__debug__" : Str)) = false := by decide)
    (hcd : (y == ("__classdict__" : Str)) = false := by decide) (he : starEach [.Name y p] X.env = (false, eval (.Name y p) X.env) :: starEach [] X.env := by rfl) (hpl : (backTo pos (starEach [] X.env)).any (·.1) = false := by rfl) :
    DE X (.Call (.Name "len" p2) [.Name y p] [] pos) (dScrLen i) :=
  ⟨PE.imp (pe_callB (call_len_seq.or call_len_str) hg hm boot_len_ (pa_cons (pv i hN hv hd hcd) pa_nil he) (by decide) (by decide) he hpl) fun σ H Q ⟨G, ea, F, ad, env, S, ns, h1, q⟩ => by
    obtain ⟨a, e1, e2⟩ := S.scr i ns h1
    refine ⟨_, e1, .inl ⟨a, _, rfl, .inl (ex_l S.fh e2), ?_⟩⟩
    show Q (.int ((ns.map V.int).length : Nat)) H
    rw [List.length_map]
    exact q _ F ad H (Grow.refl _ _) S (.int _),
   fun m ⟨ns, h1, q⟩ => ⟨ns, h1, m _ _ q⟩⟩
theorem atI_map {α β : Type} (f : α → β) {l : List α} {n : Int} {z : α} (h : atI l n = some z) : atI (l.map f) n = some (f z) := by
  unfold atI at h ⊢
  rw [List.length_map]
  cases q : ixN l.length n with
  | none => rw [q] at h; cases h
  | some j =>
    rw [q] at h
    show (l.map f)[j]? = _
    rw [List.getElem?_map, show l[j]? = some z from h]
    rfl
theorem de_scrAt (i : Nat) (ha : DE X a ra) (hN : X.N[i]? = some y := by rfl) (hv : Vis X.env.scope y := by first | exact Or.inl rfl | exact Or.inr (Or.inl rfl) | exact Or.inr (Or.inr rfl)) (hd : (y == ("__debug__" : Str)) = false := by decide)
    (hcd : (y == ("__classdict__" : Str)) = false := by decide) (hs : PlainIx a := by exact fun _ _ => rfl) :
    DE X (.Subscript (.Name y p) a pos) (dScrAt i ra) :=
  ⟨PE.imp (pe_ix ix_seq (pv i hN hv hd hcd) ha.run hs) fun σ H Q ⟨G, ea, F, ad, env, S, ns, h1, q⟩ => by
    obtain ⟨b, e1, e2⟩ := S.scr i ns h1
    refine ⟨_, e1, G, ea, F, ad, env, S, ha.mono (fun R env1 ⟨n, z, eR, hz, q⟩ v F1 ad1 H1 g1 S1 r1 => ?_) q⟩
    subst eR
    cases ris_int r1
    exact .inl ⟨b, _, n, .int z, rfl, rfl, ex_l S1.fh (ex_l g1.ex e2), atI_map V.int hz, q _ F1 ad1 H1 g1 S1 (.int z)⟩,
   fun m ⟨ns, h1, q⟩ => ⟨ns, h1, ha.mono (fun R env1 ⟨n, z, eR, hz, q⟩ => ⟨n, z, eR, hz, m _ _ q⟩) q⟩⟩
/-! ### never reached -/
def dNo : RE := fun _ _ => False
def dNoN : RN := fun _ _ => False
def dNoS : RS := fun _ _ => False
theorem de_no : DE X e dNo := ⟨⟨fun pins s σ H Q I ⟨_, _, _, _, _, _, h⟩ => h.elim⟩, fun _ h => h⟩
theorem dn_no : DN X e dNoN := ⟨⟨fun pins s σ H Q I ⟨_, _, _, _, _, _, h⟩ => h.elim⟩, fun _ h => h⟩
theorem ds_no {st : Stmt} : DS X st dNoS := ⟨⟨fun pins s σ H D I ⟨_, _, _, _, _, _, _, _, h⟩ => h.elim⟩, fun _ h => h⟩
/-! ### one of two readings -/
def dOrS (t u : RS) : RS := fun D env => t D env ∨ u D env
theorem ds_or {st : Stmt} {t u : RS} (h : DS X st t) (h' : DS X st u) : DS X st (dOrS t u) :=
  ⟨⟨fun pins s σ H D I ⟨G, ea, F, ad, env, De, S, l, q⟩ => q.elim (fun q => h.run.run pins s σ H D I ⟨G, ea, F, ad, env, De, S, l, q⟩) fun q => h'.run.run pins s σ H D I ⟨G, ea, F, ad, env, De, S, l, q⟩⟩,
   fun l h2 => h2.imp (h.mono l) (h'.mono l)⟩
end
end Dl
namespace Dl
open PySem L2
section
variable {X : Cx}
def fLt : D → D → Option D := fCI fun i j => decide (i < j)
def fLe : D → D → Option D := fCI fun i j => decide (i ≤ j)
def fGt : D → D → Option D := fCI fun i j => decide (j < i)
def fGe : D → D → Option D := fCI fun i j => decide (j ≤ i)
theorem o_lt : OpR X (compareOp .Lt) (rI0 fun i j => .bl (decide (i < j))) ∧ OpOk X.K (rI0 fun i j => .bl (decide (i < j))) fLt := o_ltI
theorem o_le : OpR X (compareOp .LtE) (rI0 fun i j => .bl (decide (i ≤ j))) ∧ OpOk X.K (rI0 fun i j => .bl (decide (i ≤ j))) fLe := o_leI
theorem o_gt : OpR X (compareOp .Gt) (rI0 fun i j => .bl (decide (j < i))) ∧ OpOk X.K (rI0 fun i j => .bl (decide (j < i))) fGt := o_gtI
theorem o_ge : OpR X (compareOp .GtE) (rI0 fun i j => .bl (decide (j ≤ i))) ∧ OpOk X.K (rI0 fun i j => .bl (decide (j ≤ i))) fGe := o_geI
end
end Dl
/-! Dl13: what the operators give, as simp knows it; comprehensions in one go. -/
namespace Dl
open PySem L2
section
variable {i j : Int} {d : D} {a b : D} {ds es : List D}
theorem x_add : fAdd (.int i) (.int j) = some (.int (i + j)) := (rfl)
theorem x_sub : fSub (.int i) (.int j) = some (.int (i - j)) := (rfl)
theorem ifs_iff {c : Prop} [Decidable c] {α : Type} {x y : α} : (if c then some x else none) = some y ↔ c ∧ x = y := by
  split <;> simp_all
theorem x_mul : (fMul (.int i) (.int j) = some d) ↔ (((-(2 ^ 64) < i ∧ i < 2 ^ 64) ∨ (-(2 ^ 64) < j ∧ j < 2 ^ 64)) ∧ PyData.int (i * j) = d) := by
  show (if decide _ = true then _ else _) = _ ↔ _
  rw [ifs_iff, decide_eq_true_eq]
theorem x_mod : (fMod (.int i) (.int j) = some d) ↔ (0 < j ∧ PyData.int (i % j) = d) := by
  show (if decide _ = true then _ else _) = _ ↔ _
  rw [ifs_iff, decide_eq_true_eq]
theorem x_div : (fDiv (.int i) (.int j) = some d) ↔ ((0 < j ∧ j < 1073741824) ∧ PyData.int (i / j) = d) := by
  show (if decide _ = true then _ else _) = _ ↔ _
  rw [ifs_iff, decide_eq_true_eq]
theorem x_pow : (fPow (.int i) (.int j) = some d) ↔ ((0 ≤ j ∧ j ≤ 1000000 ∧ i.natAbs < 2 ^ 64) ∧ PyData.int (i ^ j.toNat) = d) := by
  show (if decide _ = true then _ else _) = _ ↔ _
  rw [ifs_iff, decide_eq_true_eq]
theorem x_neg : fNeg (.int i) = some (.int (-i)) := (rfl)
theorem x_lt : fLt (.int i) (.int j) = some (.bool (decide (i < j))) := (rfl)
theorem x_le : fLe (.int i) (.int j) = some (.bool (decide (i ≤ j))) := (rfl)
theorem x_gt : fGt (.int i) (.int j) = some (.bool (decide (j < i))) := (rfl)
theorem x_ge : fGe (.int i) (.int j) = some (.bool (decide (j ≤ i))) := (rfl)
theorem x_eqI : fEq (.int i) (.int j) = some (.bool (decide (i = j))) := (rfl)
theorem x_neI : fNe (.int i) (.int j) = some (.bool (!decide (i = j))) := (rfl)
theorem x_is : fIs0 a .none = some (.bool (isNone a)) := by cases a <;> rfl
theorem x_isNot : fIsNot a .none = some (.bool (!isNone a)) := by cases a <;> rfl
theorem x_ixL : fIx (.list ds) (.int i) = atI ds i := (rfl)
theorem x_ixT : fIx (.tuple ds) (.int i) = atI ds i := (rfl)
theorem x_int : fInt [.int i] = some (.int i) := (rfl)
theorem x_abs : fAbs [.int i] = some (.int (if i < 0 then -i else i)) := (rfl)
theorem x_lenL : fLen [.list ds] = some (.int ds.length) := (rfl)
theorem x_lenT : fLen [.tuple ds] = some (.int ds.length) := (rfl)
theorem x_tupL : fTuple [.list ds] = some (.tuple ds) := (rfl)
theorem x_tupT : fTuple [.tuple ds] = some (.tuple ds) := (rfl)
theorem x_lstL : fList [.list ds] = some (.lst ds) := (rfl)
theorem x_lstT : fList [.tuple ds] = some (.lst ds) := (rfl)
theorem x_max2 : fMax2 [.int i, .int j] = some (.int (if j > i then j else i)) := (rfl)
theorem x_min2 : fMin2 [.int i, .int j] = some (.int (if j < i then j else i)) := (rfl)
theorem x_catT : (fAdd (.tuple ds) (.tuple es) = some d) ↔ (ds.length + es.length ≤ 10000 ∧ PyData.tuple (ds ++ es) = d) := by
  show ((if _ then some (PyData.tuple (ds ++ es)) else none).or ((none : Option D).or none)) = _ ↔ _
  split <;> simp_all <;> omega
theorem x_catL : (fAdd (.list ds) (.list es) = some d) ↔ (ds.length + es.length ≤ 10000 ∧ PyData.list (ds ++ es) = d) := by
  show ((if _ then some (PyData.list (ds ++ es)) else none).or (none : Option D)) = _ ↔ _
  split <;> simp_all <;> omega
theorem at0 {α : Type} {x : α} {xs : List α} : atI (x :: xs) 0 = some x := by
  unfold atI ixN; simp only [List.length_cons]; rw [if_pos (by omega), if_pos (by omega)]; rfl
theorem atNat {α : Type} {xs : List α} {n : Nat} : atI xs (n : Int) = xs[n]? := by
  unfold atI ixN
  by_cases h : (n : Int) < xs.length
  · rw [if_pos (by omega), if_pos h]; simp
  · rw [if_pos (by omega), if_neg h]
    rw [List.getElem?_eq_none (by omega)]; rfl
theorem at1 {α : Type} {x y : α} {xs : List α} : atI (x :: y :: xs) 1 = some y := atNat (n := 1)
theorem at2 {α : Type} {x y z : α} {xs : List α} : atI (x :: y :: z :: xs) 2 = some z := atNat (n := 2)
theorem at3 {α : Type} {x y z u : α} {xs : List α} : atI (x :: y :: z :: u :: xs) 3 = some u := atNat (n := 3)
theorem ex_nc {k : Nat} {p : Nat → Prop} : (∃ n : Nat, (k : Int) = (n : Int) ∧ p n) ↔ p k := by
  constructor
  · rintro ⟨n, h, q⟩
    have : n = k := by omega
    rw [this] at q; exact q
  · exact fun h => ⟨k, rfl, h⟩
theorem ex_n0 {p : Nat → Prop} : (∃ n : Nat, (0 : Int) = (n : Int) ∧ p n) ↔ p 0 := ex_nc (k := 0)
theorem ex_n1 {p : Nat → Prop} : (∃ n : Nat, (1 : Int) = (n : Int) ∧ p n) ↔ p 1 := ex_nc (k := 1)
/-! in, of ints -/
theorem any_int (x : Int) (l : List Int) : ((l.map PyData.int).any fun e => PyData.eqv e (.int x)) = l.contains x := by
  induction l with
  | nil => rfl
  | cons y l ih =>
    rw [List.map_cons, List.any_cons, ih, List.contains_cons]
    have : PyData.eqv (.int y) (.int x) = (x == y) := by
      simp only [PyData.eqv]
      rw [Bool.beq_comm]
    rw [this]
theorem flat_ints (l : List Int) : (l.map PyData.int).all flatD = true := by
  rw [List.all_map, List.all_eq_true]; intro x _; rfl
theorem x_inT (x : Int) (l : List Int) : fIn false (.int x) (.tuple (l.map PyData.int)) = some (.bool (l.contains x)) := by
  show (if _ then _ else _) = _
  rw [if_pos ⟨rfl, flat_ints l⟩]
  simp only [any_int]; rfl
theorem x_inL (x : Int) (l : List Int) : fIn false (.int x) (.list (l.map PyData.int)) = some (.bool (l.contains x)) := by
  show (if _ then _ else _) = _
  rw [if_pos ⟨rfl, flat_ints l⟩]
  simp only [any_int]; rfl
theorem x_notInT (x : Int) (l : List Int) : fIn true (.int x) (.tuple (l.map PyData.int)) = some (.bool (!l.contains x)) := by
  show (if _ then _ else _) = _
  rw [if_pos ⟨rfl, flat_ints l⟩]
  simp only [any_int]; rfl
theorem x_notInL (x : Int) (l : List Int) : fIn true (.int x) (.list (l.map PyData.int)) = some (.bool (!l.contains x)) := by
  show (if _ then _ else _) = _
  rw [if_pos ⟨rfl, flat_ints l⟩]
  simp only [any_int]; rfl
/-! == of lists with the empty list -/
def numD : D → Bool
  | .none => true
  | .bool _ => true
  | .int _ => true
  | _ => false
theorem num_ints (l : List Int) : (l.map PyData.int).all numD = true := by
  rw [List.all_map, List.all_eq_true]; intro x _; rfl
theorem flat_lay : ∀ {l : List D}, l.all numD = true → PyData.canLayAll0 l = true ∧ PyData.depthAll l = 0
  | [], _ => ⟨rfl, rfl⟩
  | d :: l, h => by
    rw [List.all_cons, Bool.and_eq_true] at h
    obtain ⟨h1, h2⟩ := flat_lay h.2
    cases d <;> first | (cases h.1; done) | (exact ⟨by simp [PyData.canLayAll0, PyData.canLay0, h1], by simp [PyData.depthAll, PyData.depth, h2]⟩)
theorem shaped_flatL {l : List D} (h : l.all numD = true) : SeqAt.shaped (.list l) = true := by
  obtain ⟨h1, h2⟩ := flat_lay h
  unfold SeqAt.shaped
  simp [PyData.canLay0, PyData.depth, h1, h2]
theorem shaped_flatT {l : List D} (h : l.all numD = true) : SeqAt.shaped (.tuple l) = true := by
  obtain ⟨h1, h2⟩ := flat_lay h
  unfold SeqAt.shaped
  simp [PyData.canLay0, PyData.depth, h1, h2]
theorem flat_const {α : Type} (l : List α) (n : Int) : (l.map fun _ => PyData.int n).all numD = true := by
  rw [List.all_map, List.all_eq_true]; intro x _; rfl
theorem eq_nilL {l : List D} (h : l.all numD = true) : fEq (.list l) (.list []) = some (.bool l.isEmpty) := by
  show (if _ then _ else _) = _
  rw [if_pos ⟨shaped_flatL h, by rfl⟩]
  cases l <;> rfl
theorem ne_nilL {l : List D} (h : l.all numD = true) : fNe (.list l) (.list []) = some (.bool (!l.isEmpty)) := by
  show (if _ then _ else _) = _
  rw [if_pos ⟨shaped_flatL h, by rfl⟩]
  cases l <;> rfl
theorem x_nilI {α : Type} (l : List α) (n : Int) : fEq (.list (l.map fun _ => PyData.int n)) (.list []) = some (.bool l.isEmpty) := by
  rw [eq_nilL (flat_const l n)]; cases l <;> rfl
theorem x_nnilI {α : Type} (l : List α) (n : Int) : fNe (.list (l.map fun _ => PyData.int n)) (.list []) = some (.bool (!l.isEmpty)) := by
  rw [ne_nilL (flat_const l n)]; cases l <;> rfl
theorem x_nnilJ (l : List Int) : fNe (.list (l.map PyData.int)) (.list []) = some (.bool (!l.isEmpty)) := by
  rw [ne_nilL (num_ints l)]; cases l <;> rfl
theorem eqv_ints : ∀ a b : List Int, PyData.eqvAll (a.map PyData.int) (b.map PyData.int) = decide (a = b)
  | [], [] => rfl
  | [], _ :: _ => rfl
  | _ :: _, [] => rfl
  | x :: a, y :: b => by
    rw [List.map_cons, List.map_cons]
    simp only [PyData.eqvAll, PyData.eqv, eqv_ints a b, List.cons.injEq]
    by_cases h : x = y
    · simp [h]
    · simp [h]
theorem x_eqT (a b : List Int) : fEq (.tuple (a.map PyData.int)) (.tuple (b.map PyData.int)) = some (.bool (decide (a = b))) := by
  show (if _ then _ else _) = _
  rw [if_pos ⟨shaped_flatT (num_ints a), shaped_flatT (num_ints b)⟩]
  simp only [PyData.eqv, eqv_ints]
theorem x_neT (a b : List Int) : fNe (.tuple (a.map PyData.int)) (.tuple (b.map PyData.int)) = some (.bool (!decide (a = b))) := by
  show (if _ then _ else _) = _
  rw [if_pos ⟨shaped_flatT (num_ints a), shaped_flatT (num_ints b)⟩]
  simp only [PyData.eqv, eqv_ints]
theorem x_all {α : Type} (f : α → Bool) (l : List α) : fAll [.list (l.map fun x => PyData.bool (f x))] = some (.bool (l.all f)) := by
  show (blsD _).map _ = _
  have : (l.map fun x => PyData.bool (f x)) = (l.map f).map PyData.bool := by rw [List.map_map]; rfl
  rw [this, blsD_map]
  simp [List.all_map]
theorem x_any {α : Type} (f : α → Bool) (l : List α) : fAny [.list (l.map fun x => PyData.bool (f x))] = some (.bool (l.any f)) := by
  show (blsD _).map _ = _
  have : (l.map fun x => PyData.bool (f x)) = (l.map f).map PyData.bool := by rw [List.map_map]; rfl
  rw [this, blsD_map]
  simp [List.any_map]
theorem x_maxI (l : List Int) : (fMax [.list (l.map PyData.int)] = some d) ↔ (0 < l.length ∧ PyData.int (maxI l) = d) := by
  show (intsD _).bind _ = _ ↔ _
  rw [intsD_map]
  exact ifs_iff
theorem x_minI (l : List Int) : (fMin [.list (l.map PyData.int)] = some d) ↔ (0 < l.length ∧ PyData.int (minI l) = d) := by
  show (intsD _).bind _ = _ ↔ _
  rw [intsD_map]
  exact ifs_iff
theorem x_sumI (l : List Int) : fSum [.list (l.map PyData.int)] = some (.int l.sum) := by
  show (intsD _).map _ = _
  rw [intsD_map]; rfl
theorem rgD0 (n : Nat) : rgD 0 n = (List.range n).map fun (i : Nat) => PyData.int (i : Int) := by
  unfold rgD
  exact List.map_congr_left fun i _ => by rw [Int.zero_add]
theorem rgD_ints (lo : Int) (n : Nat) : rgD lo n = ((List.range n).map fun (i : Nat) => lo + (i : Int)).map PyData.int := by
  unfold rgD
  rw [List.map_map]; rfl
theorem enumD_map {α : Type} (enc : α → D) (xs : List α) : enumD (xs.map enc) = xs.zipIdx.map fun p => PyData.tuple [.int (p.2 : Nat), enc p.1] := by
  refine List.ext_getElem? fun i => ?_
  simp only [enumD, List.getElem?_mapIdx, List.getElem?_map, List.getElem?_zipIdx]
  cases xs[i]? <;> simp
theorem dl_1 {α : Type} {a : α} : [a].dropLast = [] := (rfl)
theorem dl_2 {α : Type} {a b : α} {l : List α} : (a :: b :: l).dropLast = a :: (b :: l).dropLast := (rfl)
theorem eq_nn : fEq (.list []) (.list []) = some (.bool true) := (rfl)
theorem ne_nn : fNe (.list []) (.list []) = some (.bool false) := (rfl)
/-! numbers and None -/
def oD : Option Int → D
  | none => .none
  | some i => .int i
theorem oD_n : oD none = .none := (rfl)
theorem oD_s {i : Int} : oD (some i) = .int i := (rfl)
theorem oD_shaped (o : Option Int) : SeqAt.shaped (oD o) = true := by cases o <;> rfl
theorem x_eqO (a b : Option Int) : fEq (oD a) (oD b) = some (.bool (decide (a = b))) := by
  show (if _ then _ else _) = _
  rw [if_pos ⟨oD_shaped a, oD_shaped b⟩]
  cases a <;> cases b <;> simp [oD, PyData.eqv] <;> rfl
theorem x_eqOI (a : Option Int) (b : Int) : fEq (oD a) (.int b) = some (.bool (decide (a = some b))) := x_eqO a (some b)
theorem isNone_oD (a : Option Int) : isNone (oD a) = a.isNone := by cases a <;> rfl
end
theorem obget_s {env : En} {i : Nat} : (Ob.slot i).get env = (env.sl[i]?).bind slMu := (rfl)
theorem obget_e {env : En} {i : Nat} : (Ob.ext i).get env = env.xt[i]? := (rfl)
theorem obput_s {env : En} {i : Nat} {m : Mu} : (Ob.slot i).put env m = ⟨env.sl.set i (.mu m), env.xt⟩ := (rfl)
theorem obput_e {env : En} {i : Nat} {m : Mu} : (Ob.ext i).put env m = ⟨env.sl, env.xt.set i m⟩ := (rfl)
theorem put_nil {env : En} {l : List Mu} : putObs env [] l = env := (rfl)
theorem put_one {env : En} {o : Ob} {m : Mu} : putObs env [o] [m] = o.put env m := (rfl)
theorem ex_v0 {p : List D → Prop} : (∃ ds : List D, ([] : List Rv) = ds.map Rv.val ∧ p ds) ↔ p [] := by
  constructor
  · rintro ⟨ds, h, q⟩
    cases ds with
    | nil => exact q
    | cons _ _ => cases h
  · exact fun h => ⟨[], rfl, h⟩
theorem ex_v1 {d : D} {Rs : List Rv} {p : List D → Prop} : (∃ ds : List D, (Rv.val d :: Rs) = ds.map Rv.val ∧ p ds) ↔ ∃ ds : List D, Rs = ds.map Rv.val ∧ p (d :: ds) := by
  constructor
  · rintro ⟨ds, h, q⟩
    cases ds with
    | nil => cases h
    | cons d' ds =>
      rw [List.map_cons] at h
      have h1 := (List.cons.inj h).1
      have h2 := (List.cons.inj h).2
      cases h1
      exact ⟨ds, h2, q⟩
  · rintro ⟨ds, h, q⟩
    exact ⟨d :: ds, by rw [List.map_cons, h], q⟩
theorem run_congr {T : DSp} {a a' : List Arg} {x x' : List Mu} {Q : Res → List Mu → Prop} (h1 : a = a') (h2 : x = x') : T.run a x Q = T.run a' x' Q := by rw [h1, h2]
theorem lcGo_congr {t : Tg} {tt : RT} {te : RE} {vs : List Nat} {Q : List D → En → Prop} {a a' b b' : List D} {e e' : En} (h1 : a = a') (h2 : b = b') (h3 : e = e') : dLcGo t tt te vs Q a b e = dLcGo t tt te vs Q a' b' e' := by rw [h1, h2, h3]
theorem loop_congr {t : Tg} {tt : RS} {De : DEnds} {a a' : List D} {e e' : En} (h1 : a = a') (h3 : e = e') : dLoop t tt De a e = dLoop t tt De a' e' := by rw [h1, h3]
theorem tg_nm {i : Nat} {d : D} {env : En} : tgSet (.nm i) d env = some (env.set i (.val d)) := by rw [tgSet]
theorem tg_tup {l : List Tg} {ds : List D} {env : En} : tgSet (.tup l) (.tuple ds) env = tgsSet l ds env := by rw [tgSet]
theorem tgs_nil {env : En} : tgsSet [] [] env = some env := by rw [tgsSet]
theorem tgs_cons {t : Tg} {ts : List Tg} {d : D} {ds : List D} {env : En} : tgsSet (t :: ts) (d :: ds) env = (tgSet t d env).bind fun e => tgsSet ts ds e := by rw [tgsSet]
theorem cut_to (l : List D) (k : Nat) : cutD l none (some (k : Int)) = l.take k := by
  unfold cutD
  rw [HT.sIx_none, HT.sIx_nat, Nat.sub_zero, List.drop_zero]
  rcases Nat.le_total k l.length with h | h
  · rw [Nat.min_eq_left h]
  · rw [Nat.min_eq_right h, List.take_length, List.take_of_length_le h]
theorem cut_from (l : List D) (k : Nat) : cutD l (some (k : Int)) none = l.drop k := by
  unfold cutD
  rw [HT.sIx_none, HT.sIx_nat]
  rcases Nat.le_total k l.length with h | h
  · rw [Nat.min_eq_left h, List.take_of_length_le (by simp)]
  · rw [Nat.min_eq_right h, List.drop_of_length_le (Nat.le_refl _), List.drop_of_length_le h, List.take_nil]
/-! ### comprehensions -/
theorem lcGo_pure {t : Tg} {tt : RT} {te : RE} {vs : List Nat} {α : Type} {enc : α → D} {Q : List D → En → Prop} {env : En} (p : α → Bool) (f : α → D) :
    ∀ (xs : List α) (acc : List D), acc.length + xs.length ≤ 10000 →
    (∀ x ∈ xs, ∃ env1, tgSet t (enc x) (env.wipe vs) = some env1 ∧ env1.xt = env.xt ∧ ∀ (QT : Bool → En → Prop), QT (p x) env1 → tt env1 QT) →
    (∀ x ∈ xs, p x = true → ∀ env1, tgSet t (enc x) (env.wipe vs) = some env1 → ∀ (QE : Rv → En → Prop), QE (.val (f x)) env1 → te env1 QE) →
    Q (acc ++ (xs.filter p).map f) env → dLcGo t tt te vs Q (xs.map enc) acc env
  | [], acc, _, _, _, q => by simpa [dLcGo] using q
  | x :: xs, acc, hl, ht, he, q => by
    obtain ⟨env1, e1, ex, h1⟩ := ht x List.mem_cons_self
    refine ⟨env1, e1, h1 _ ⟨rfl, fun hp => he x List.mem_cons_self hp env1 e1 _ ⟨f x, rfl, rfl, ?_, ?_⟩, fun hp => ?_⟩⟩
    · simp only [List.length_cons] at hl; omega
    · have : (⟨env.sl, env1.xt⟩ : En) = env := by rw [ex]
      rw [this]
      refine lcGo_pure p f xs _ ?_ (fun y hy => ht y (List.mem_cons_of_mem _ hy)) (fun y hy => he y (List.mem_cons_of_mem _ hy)) ?_
      · simp only [List.length_append, List.length_cons, List.length_nil] at hl ⊢; omega
      · rw [List.filter_cons, if_pos hp, List.map_cons] at q
        simpa using q
    · have : (⟨env.sl, env1.xt⟩ : En) = env := by rw [ex]
      rw [this]
      refine lcGo_pure p f xs _ ?_ (fun y hy => ht y (List.mem_cons_of_mem _ hy)) (fun y hy => he y (List.mem_cons_of_mem _ hy)) ?_
      · simp only [List.length_cons] at hl; omega
      · rw [List.filter_cons, if_neg (by rw [hp]; decide)] at q
        exact q
theorem lcGo_map {t : Tg} {te : RE} {vs : List Nat} {α : Type} {enc : α → D} {Q : List D → En → Prop} {env : En} (f : α → D) (xs : List α) (hl : xs.length ≤ 10000)
    (he : ∀ x ∈ xs, ∃ env1, tgSet t (enc x) (env.wipe vs) = some env1 ∧ env1.xt = env.xt ∧ ∀ (QE : Rv → En → Prop), QE (.val (f x)) env1 → te env1 QE)
    (q : Q (xs.map f) env) : dLcGo t dYes te vs Q (xs.map enc) [] env := by
  refine lcGo_pure (fun _ => true) f xs [] (by simpa using hl) (fun x hx => ?_) (fun x hx _ env1 e QE h => ?_) ?_
  · obtain ⟨env1, a, b, c⟩ := he x hx
    exact ⟨env1, a, b, fun QT h => h⟩
  · obtain ⟨env2, a, b, c⟩ := he x hx
    rw [a] at e; cases e
    exact c QE h
  · have e : xs.filter (fun _ => true) = xs := List.filter_eq_self.mpr fun _ _ => rfl
    rw [e]; exact q
theorem lcGo_fil {t : Tg} {tt : RT} {te : RE} {vs : List Nat} {α : Type} {enc : α → D} {Q : List D → En → Prop} {env : En} (p : α → Bool) (f : α → D) (xs : List α) (hl : xs.length ≤ 10000)
    (he : ∀ x ∈ xs, ∃ env1, tgSet t (enc x) (env.wipe vs) = some env1 ∧ env1.xt = env.xt ∧ (∀ (QT : Bool → En → Prop), QT (p x) env1 → tt env1 QT) ∧ (p x = true → ∀ (QE : Rv → En → Prop), QE (.val (f x)) env1 → te env1 QE))
    (q : Q ((xs.filter p).map f) env) : dLcGo t tt te vs Q (xs.map enc) [] env := by
  refine lcGo_pure p f xs [] (by simpa using hl) (fun x hx => ?_) (fun x hx hp env1 e QE h => ?_) q
  · obtain ⟨env1, a, b, c, d⟩ := he x hx
    exact ⟨env1, a, b, c⟩
  · obtain ⟨env2, a, b, c, d⟩ := he x hx
    rw [a] at e; cases e
    exact d hp QE h
/-- ys is what is left of xs (sk: some may be left out), each by P -/
inductive Sel {α β : Type} (sk : Bool) (P : α → β → Prop) : List α → List β → Prop
  | nil : Sel sk P [] []
  | keep {x y xs ys} : P x y → Sel sk P xs ys → Sel sk P (x :: xs) (y :: ys)
  | skip {x xs ys} : sk = true → Sel sk P xs ys → Sel sk P (x :: xs) ys
theorem lcGo_st {t : Tg} {tt : RT} {te : RE} {vs : List Nat} {α β : Type} {enc : α → D} {dec : β → D} {sl : List Sl} (B : List Mu → Prop) (sk : Bool) (P : α → β → Prop) {Q : List D → En → Prop} :
    ∀ (xs : List α) (acc : List D) (xt : List Mu), B xt → acc.length + xs.length ≤ 10000 →
    (∀ x ∈ xs, ∀ xt, B xt → ∃ env1, tgSet t (enc x) (En.wipe ⟨sl, xt⟩ vs) = some env1 ∧ ∀ (C : Option D → List Mu → Prop), (∀ y xt', P x y → B xt' → C (some (dec y)) xt') → (sk = true → ∀ xt', B xt' → C none xt') →
      tt env1 fun b env2 => env2.sl = env1.sl ∧ (b = true → te env2 fun R env3 => ∃ d', R = .val d' ∧ env3.sl = env1.sl ∧ C (some d') env3.xt) ∧ (b = false → C none env2.xt)) →
    (∀ ys xt', Sel sk P xs ys → B xt' → Q (acc ++ ys.map dec) ⟨sl, xt'⟩) → dLcGo t tt te vs Q (xs.map enc) acc ⟨sl, xt⟩
  | [], acc, xt, hb, _, _, q => by
    have := q [] xt .nil hb
    simpa [dLcGo] using this
  | x :: xs, acc, xt, hb, hl, h, q => by
    obtain ⟨env1, e1, h1⟩ := h x List.mem_cons_self xt hb
    simp only [List.length_cons] at hl
    refine ⟨env1, e1, h1 (fun o xt' => match o with
      | some d' => acc.length < 10000 ∧ dLcGo t tt te vs Q (xs.map enc) (acc ++ [d']) ⟨sl, xt'⟩
      | none => dLcGo t tt te vs Q (xs.map enc) acc ⟨sl, xt'⟩) (fun y xt' hp hb' => ⟨by omega, ?_⟩) fun hs xt' hb' => ?_⟩
    · refine lcGo_st B sk P xs _ xt' hb' (by simp only [List.length_append, List.length_cons, List.length_nil]; omega) (fun y hy => h y (List.mem_cons_of_mem _ hy)) fun ys xt2 hs hb2 => ?_
      have := q (y :: ys) xt2 (.keep hp hs) hb2
      simpa using this
    · exact lcGo_st B sk P xs _ xt' hb' (by omega) (fun y hy => h y (List.mem_cons_of_mem _ hy)) fun ys xt2 hs' hb2 => q ys xt2 (.skip hs hs') hb2
theorem Sel.len {α β : Type} {P : α → β → Prop} : ∀ {xs : List α} {ys : List β}, Sel false P xs ys → ys.length = xs.length
  | _, _, .nil => rfl
  | _, _, .keep _ t => by rw [List.length_cons, List.length_cons, Sel.len t]
  | _, _, .skip h _ => by cases h
theorem Sel.mem {α β : Type} {sk : Bool} {P : α → β → Prop} : ∀ {xs : List α} {ys : List β}, Sel sk P xs ys → ∀ y ∈ ys, ∃ x ∈ xs, P x y
  | _, _, .nil, y, h => by cases h
  | _, _, .keep (x := x) hp t, y, h => by
    rcases List.mem_cons.mp h with rfl | h
    · exact ⟨x, List.mem_cons_self, hp⟩
    · obtain ⟨x', h1, h2⟩ := Sel.mem t y h; exact ⟨x', List.mem_cons_of_mem _ h1, h2⟩
  | _, _, .skip _ t, y, h => by obtain ⟨x', h1, h2⟩ := Sel.mem t y h; exact ⟨x', List.mem_cons_of_mem _ h1, h2⟩
theorem Sel.sub {α : Type} {sk : Bool} {P : α → α → Prop} (hp : ∀ x y, P x y → x = y) : ∀ {xs ys : List α}, Sel sk P xs ys → ys.Sublist xs
  | _, _, .nil => .slnil
  | _, _, .keep h t => by rw [hp _ _ h]; exact (Sel.sub hp t).cons_cons _
  | _, _, .skip _ t => (Sel.sub hp t).cons _
/-! ### 0 .. m - 1 -/
def hsI (m : Nat) : List Int := (List.range m).map fun (i : Nat) => (i : Int)
theorem hs_nodup (m : Nat) : (hsI m).Nodup := by
  unfold hsI
  exact List.pairwise_map.mpr (List.nodup_range.imp fun {a b} h e => h (by omega))
theorem hs_len (m : Nat) : (hsI m).length = m := by simp [hsI]
theorem hs_mem {m : Nat} {x : Int} : x ∈ hsI m ↔ 0 ≤ x ∧ x < m := by
  unfold hsI
  rw [List.mem_map]
  constructor
  · rintro ⟨i, h, rfl⟩
    rw [List.mem_range] at h; omega
  · rintro ⟨h1, h2⟩
    exact ⟨x.toNat, List.mem_range.mpr (by omega), by omega⟩
theorem rgD_hs (m : Nat) : rgD 0 m = (hsI m).map PyData.int := by rw [rgD0]; simp [hsI]
theorem cut40 (l : List D) : cutD l none (some 40) = l.take 40 := cut_to l 40
theorem cut2m {α : Type} (g : α → D) (l : List α) : cutD (l.map g) none (some 2) = (l.take 2).map g := by rw [List.map_take]; exact cut_to _ 2
theorem p_oD (a : Option Int) : pureRes (.val (oD a)) = true := by cases a <;> rfl
/-- a walk by what holds at each turn -/
theorem loop_inv {t : Tg} {b : RS} {De : DEnds} {α : Type} {enc : α → D} (I : List α → List α → En → Prop) :
    ∀ (rest done : List α) (env : En), (∀ done x rest env, I done (x :: rest) env → ∃ env1, tgSet t (enc x) env = some env1 ∧ ∀ N : En → Prop, (∀ e, I (done ++ [x]) rest e → N e) → b { nx := N, rt := De.rt, bk := De.nx, ct := N } env1) →
    (∀ done env, I done [] env → De.nx env) → I done rest env → dLoop t b De (rest.map enc) env
  | [], done, env, _, hd, h => hd done env h
  | x :: rest, done, env, hs, hd, h => by
    obtain ⟨env1, e, k⟩ := hs done x rest env h
    exact ⟨env1, e, k _ fun e' he' => loop_inv I rest (done ++ [x]) e' hs hd he'⟩
end Dl
/-! Dl14: readings, evaluated from outside in. -/
namespace Dl
open PySem L2
section
variable {α β : Type}
def optP : Option α → (α → Prop) → Prop
  | some a, P => P a
  | none, _ => False
theorem optP_congr {o o' : Option α} {P : α → Prop} (h : o = o') : optP o P = optP o' P := by rw [h]
theorem optP_some {a : α} {P : α → Prop} : optP (some a) P = P a := (rfl)
theorem optP_i {o : Option α} {P : α → Prop} {a : α} (h : o = some a) (p : P a) : optP o P := by rw [h]; exact p
theorem optP_ex {o : Option α} {P : α → Prop} : (∃ a, o = some a ∧ P a) = optP o P := by
  cases o with
  | none => simp [optP]
  | some a => simp [optP]
def vaP : Rv → (D → Prop) → Prop
  | .val d, P => P d
  | _, _ => False
theorem vaP_congr {o o' : Rv} {P : D → Prop} (h : o = o') : vaP o P = vaP o' P := by rw [h]
theorem vaP_val {d : D} {P : D → Prop} : vaP (.val d) P = P d := (rfl)
theorem vaP_ex {R : Rv} {P : D → Prop} : (∃ d, R = .val d ∧ P d) = vaP R P := by
  cases R <;> simp [vaP]
def boP : Rv → (Bool → Prop) → Prop
  | .val (.bool b), P => P b
  | _, _ => False
theorem boP_congr {o o' : Rv} {P : Bool → Prop} (h : o = o') : boP o P = boP o' P := by rw [h]
theorem boP_val {d : Bool} {P : Bool → Prop} : boP (.val (.bool d)) P = P d := (rfl)
theorem boP_ex {R : Rv} {P : Bool → Prop} : (∃ k, R = .val (.bool k) ∧ P k) = boP R P := by
  cases R with
  | val d => cases d <;> simp [boP]
  | _ => simp [boP]
def inP : Rv → (Int → Prop) → Prop
  | .val (.int b), P => P b
  | _, _ => False
theorem inP_congr {o o' : Rv} {P : Int → Prop} (h : o = o') : inP o P = inP o' P := by rw [h]
theorem inP_val {d : Int} {P : Int → Prop} : inP (.val (.int d)) P = P d := (rfl)
theorem inP_ex {R : Rv} {P : Int → Prop} : (∃ k, R = .val (.int k) ∧ P k) = inP R P := by
  cases R with
  | val d => cases d <;> simp [inP]
  | _ => simp [inP]
def muP : Mu → (List D → Prop) → Prop
  | .lst ds, P => P ds
  | _, _ => False
theorem muP_congr {o o' : Mu} {P : List D → Prop} (h : o = o') : muP o P = muP o' P := by rw [h]
theorem muP_lst {d : List D} {P : List D → Prop} : muP (.lst d) P = P d := (rfl)
theorem muP_ex {R : Mu} {P : List D → Prop} : (∃ d, R = .lst d ∧ P d) = muP R P := by
  cases R <;> simp [muP]
def valsOf : List Rv → Option (List D)
  | [] => some []
  | .val d :: Rs => (valsOf Rs).map fun ds => d :: ds
  | _ :: _ => none
theorem vals_nil : valsOf [] = some [] := (rfl)
theorem vals_cons {d : D} {Rs : List Rv} : valsOf (.val d :: Rs) = (valsOf Rs).map fun ds => d :: ds := (rfl)
theorem valsOf_iff : ∀ {Rs : List Rv} {ds : List D}, valsOf Rs = some ds ↔ Rs = ds.map Rv.val
  | [], [] => by simp [valsOf]
  | [], _ :: _ => by simp [valsOf]
  | R :: Rs, ds => by
    cases R with
    | val d =>
      rw [vals_cons]
      constructor
      · intro h
        cases z : valsOf Rs with
        | none => rw [z] at h; cases h
        | some es => rw [z] at h; cases h; rw [List.map_cons, ← valsOf_iff.mp z]
      · intro h
        cases ds with
        | nil => cases h
        | cons d' ds =>
          rw [List.map_cons] at h
          have h1 := (List.cons.inj h).1
          cases h1
          rw [valsOf_iff.mpr (List.cons.inj h).2]; rfl
    | slot i => constructor
                · intro h; cases h
                · intro h; cases ds <;> cases h
    | ext i => constructor
               · intro h; cases h
               · intro h; cases ds <;> cases h
theorem vals_ex {Rs : List Rv} {P : List D → Prop} : (∃ ds : List D, Rs = ds.map Rv.val ∧ P ds) = optP (valsOf Rs) P := by
  rw [← optP_ex]
  exact propext ⟨fun ⟨ds, h, q⟩ => ⟨ds, valsOf_iff.mpr h, q⟩, fun ⟨ds, h, q⟩ => ⟨ds, valsOf_iff.mp h, q⟩⟩
/-- a choice by a truth value -/
def brP (b : Bool) (P Q : Prop) : Prop := (b = true → P) ∧ (b = false → Q)
theorem brP_congr {b b' : Bool} {P Q : Prop} (h : b = b') : brP b P Q = brP b' P Q := by rw [h]
theorem brP_t {P Q : Prop} : brP true P Q = P := by simp [brP]
theorem brP_f {P Q : Prop} : brP false P Q = Q := by simp [brP]
theorem brP_d {p : Prop} [Decidable p] {P Q : Prop} : brP (decide p) P Q = ((p → P) ∧ (¬ p → Q)) := by simp [brP]
theorem brP_n {b : Bool} {P Q : Prop} : brP (!b) P Q = brP b Q P := by cases b <;> simp [brP]
end
section
variable {i j n : Nat} {env : En} {d : D} {Q : Rv → En → Prop} {QN : Mu → En → Prop} {QT : Bool → En → Prop} {QA : List Rv → En → Prop} {QI : List D → En → Prop} {f f' : D → D → Option D} {g : D → Option D} {h : List D → Option D} {hn : List D → Option Mu} {ra rb rc : RE} {rs : RA} {rn : RN} {t u : RS} {c c' : RT} {ri : RI} {De : DEnds} {tg : Tg} {ty : String} {T : DSp} {md : List Bool} {rm : RM} {QM : List Res → En → Prop} {is : List Nat}
theorem e_C {d : PyData} : dC d env Q = Q (.val d) env := (rfl)
theorem e_V : dV i env Q = optP ((env.sl[i]?).bind (slotR i)) fun R => Q R env := optP_ex
theorem e_Fz : dFz rn env Q = rn env fun m env' => muP m fun ds => Q (.val (.list ds)) env' := by
  unfold dFz; simp only [muP_ex]
theorem e_Op : dOp f ra rb env Q = ra env fun R1 env1 => rb env1 fun R2 env2 => optP (R1.d env2) fun dx => optP (R2.d env2) fun dy => optP (f dx dy) fun dz => Q (.val dz) env2 := by
  unfold dOp; simp only [← optP_ex, exists_and_left]
theorem e_Un : dUn g ra env Q = ra env fun R env1 => optP (R.d env1) fun dx => optP (g dx) fun dz => Q (.val dz) env1 := by
  unfold dUn; simp only [← optP_ex, exists_and_left]
theorem e_B : dB ra env QT = ra env fun R env' => boP R fun k => QT k env' := by
  unfold dB; simp only [boP_ex]
theorem e_Chain : dChain f f' ra rb rc env Q = ra env fun R1 env1 => rb env1 fun R2 env2 => optP (R1.d env2) fun dx => optP (R2.d env2) fun dy => optP (f dx dy) fun dk => boP (.val dk) fun k =>
    brP k (rc env2 fun R3 env3 => optP (R2.d env3) fun dy' => optP (R3.d env3) fun dz => optP (f' dy' dz) fun dw => Q (.val dw) env3) (Q (.val (.bool false)) env2) := by
  unfold dChain
  have e : ∀ (o : Option PyData) (P : Bool → Prop), (∃ k, o = some (.bool k) ∧ P k) = optP o fun dk => boP (.val dk) P := fun o P => by
    cases o with
    | none => simp [optP]
    | some d => cases d <;> simp [optP, boP]
  simp only [exists_and_left, optP_ex, e]
  rfl
theorem e_AndT : dAndT c c' env QT = c env fun k env1 => brP k (c' env1 QT) (QT false env1) := (rfl)
theorem e_OrT : dOrT c c' env QT = c env fun k env1 => brP k (QT true env1) (c' env1 QT) := (rfl)
theorem e_NotT : dNotT c env QT = c env fun k env1 => QT (!k) env1 := (rfl)
theorem e_AndV : dAndV ra rb env Q = ra env fun R env1 => boP R fun k => brP k (rb env1 Q) (Q (.val (.bool false)) env1) := by
  unfold dAndV; simp only [← boP_ex]; rfl
theorem e_OrV : dOrV ra rb env Q = ra env fun R env1 => boP R fun k => brP k (Q (.val (.bool true)) env1) (rb env1 Q) := by
  unfold dOrV; simp only [← boP_ex]; rfl
theorem e_NotV : dNotV ra env Q = ra env fun R env1 => boP R fun k => Q (.val (.bool (!k))) env1 := by
  unfold dNotV; simp only [← boP_ex]
theorem e_If : dIf c ra rb env Q = c env fun k env1 => brP k (ra env1 Q) (rb env1 Q) := (rfl)
theorem e_Nil : dNil env QA = QA [] env := (rfl)
theorem e_Cons : dCons ra rs env QA = ra env fun R env1 => rs env1 fun Rs env2 => QA (R :: Rs) env2 := (rfl)
theorem e_Tup : dTup rs env Q = rs env fun Rs env1 => optP (valsOf Rs) fun ds => ds.length ≤ 10000 ∧ Q (.val (.tuple ds)) env1 := by
  unfold dTup; simp only [vals_ex]
theorem e_Lst : dLst rs env QN = rs env fun Rs env1 => optP (valsOf Rs) fun ds => ds.length ≤ 10000 ∧ QN (.lst ds) env1 := by
  unfold dLst; simp only [vals_ex]
theorem e_CB : dCB h rs env Q = rs env fun Rs env1 => optP (rvDs env1 Rs) fun ds => optP (h ds) fun dz => Q (.val dz) env1 := by
  unfold dCB; simp only [← optP_ex, exists_and_left]
theorem e_CBN : dCBN hn rs env QN = rs env fun Rs env1 => optP (rvDs env1 Rs) fun ds => optP (hn ds) fun m => QN m env1 := by
  unfold dCBN; simp only [← optP_ex, exists_and_left]
theorem e_Isi : dIsi ty ra env Q = ra env fun R env1 => optP (R.d env1) fun d => optP (isiD ty d) fun b => Q (.val (.bool b)) env1 := by
  unfold dIsi; simp only [← optP_ex, exists_and_left]
theorem e_TupRg1 : dTupRg1 ra env Q = ra env fun R env1 => inP R fun n => (0 ≤ n ∧ n ≤ 10000) ∧ Q (.val (.tuple (rgD 0 n.toNat))) env1 := by
  unfold dTupRg1; simp only [← inP_ex]
theorem e_LstRg1 : dLstRg1 ra env QN = ra env fun R env1 => inP R fun n => (0 ≤ n ∧ n ≤ 10000) ∧ QN (.lst (rgD 0 n.toNat)) env1 := by
  unfold dLstRg1; simp only [← inP_ex]
theorem e_TupRg2 : dTupRg2 ra rb env Q = ra env fun R env1 => rb env1 fun R2 env2 => inP R fun i => inP R2 fun j => (0 ≤ i ∧ i ≤ 10000 ∧ 0 ≤ j ∧ j ≤ 10000) ∧ Q (.val (.tuple (rgD i (j - i).toNat))) env2 := by
  unfold dTupRg2; simp only [← inP_ex, exists_and_left]
theorem e_LstRg2 : dLstRg2 ra rb env QN = ra env fun R env1 => rb env1 fun R2 env2 => inP R fun i => inP R2 fun j => (0 ≤ i ∧ i ≤ 10000 ∧ 0 ≤ j ∧ j ≤ 10000) ∧ QN (.lst (rgD i (j - i).toNat)) env2 := by
  unfold dLstRg2; simp only [← inP_ex, exists_and_left]
def scrOf : Sl → Option (List Int)
  | .scr ns => some ns
  | _ => none
theorem scr_ex {o : Option Sl} {P : List Int → Prop} : (∃ ns, o = some (.scr ns) ∧ P ns) = optP (o.bind scrOf) P := by
  cases o with
  | none => simp [optP]
  | some s => cases s <;> simp [optP, scrOf]
theorem e_ScrLen : dScrLen i env Q = optP ((env.sl[i]?).bind scrOf) fun ns => Q (.val (.int ns.length)) env := scr_ex
theorem e_ScrAt : dScrAt i ra env Q = optP ((env.sl[i]?).bind scrOf) fun ns => ra env fun R env1 => inP R fun n => optP (atI ns n) fun z => Q (.val (.int z)) env1 := by
  unfold dScrAt; rw [← scr_ex]; simp only [← inP_ex, ← optP_ex, exists_and_left]
theorem e_SeqI : dSeqI ra env QI = ra env fun R env1 => vaP R fun d => optP (seqD d) fun ds => QI ds env1 := by
  unfold dSeqI; simp only [← vaP_ex, ← optP_ex, exists_and_left]
theorem e_Enum : dEnum ra env QI = ra env fun R env1 => vaP R fun d => optP (seqD d) fun ds => QI (enumD ds) env1 := by
  unfold dEnum; simp only [← vaP_ex, ← optP_ex, exists_and_left]
def rg1 : List Rv → Option Int
  | [.val (.int n)] => some n
  | _ => none
theorem rg1_ex {Rs : List Rv} {P : Int → Prop} : (∃ n : Int, Rs = [.val (.int n)] ∧ P n) = optP (rg1 Rs) P := by
  rw [← optP_ex]
  refine propext ⟨fun ⟨n, e, p⟩ => ⟨n, by rw [e]; rfl, p⟩, fun ⟨n, e, p⟩ => ⟨n, ?_, p⟩⟩
  unfold rg1 at e
  split at e
  · cases e; rfl
  · cases e
theorem e_Rng1 : dRng1 rs env QI = rs env fun Rs env1 => optP (rg1 Rs) fun n => (-1000000 ≤ n ∧ n ≤ 1000000) ∧ QI (rgD 0 n.toNat) env1 := by
  unfold dRng1; simp only [← rg1_ex]
def rg2 : List Rv → Option (Int × Int)
  | [.val (.int n), .val (.int m)] => some (n, m)
  | _ => none
theorem rg2_ex {Rs : List Rv} {P : Int → Int → Prop} : (∃ n m : Int, Rs = [.val (.int n), .val (.int m)] ∧ P n m) = optP (rg2 Rs) fun p => P p.1 p.2 := by
  rw [← optP_ex]
  refine propext ⟨fun ⟨n, m, e, p⟩ => ⟨(n, m), by rw [e]; rfl, p⟩, fun ⟨⟨n, m⟩, e, p⟩ => ⟨n, m, ?_, p⟩⟩
  unfold rg2 at e
  split at e
  · cases e; rfl
  · cases e
theorem e_Rng2 : dRng2 rs env QI = rs env fun Rs env1 => optP (rg2 Rs) fun p => (-1000000 ≤ p.1 ∧ p.1 ≤ 1000000 ∧ -1000000 ≤ p.2 ∧ p.2 ≤ 1000000) ∧ QI (rgD p.1 (p.2 - p.1).toNat) env1 := by
  unfold dRng2; simp only [rg2_ex]
/-! statements -/
theorem e_Seq : dSeq t u De env = t { De with nx := u De } env := (rfl)
theorem e_Next : dNext De env = De.nx env := (rfl)
theorem e_Break : dBreak De env = De.bk env := (rfl)
theorem e_Cont : dCont De env = De.ct env := (rfl)
theorem e_Drop : dDrop ra De env = ra env fun _ env1 => De.nx env1 := (rfl)
theorem e_Ret : dRet ra De env = ra env fun R env1 => optP (slNew env1 R) fun r => De.rt r env1 := by
  unfold dRet; congr 1; funext R env1; exact optP_ex
theorem e_RetN : dRetN rn De env = rn env fun m env1 => De.rt (.new m) env1 := (rfl)
theorem e_Ret0 : dRet0 De env = De.rt (.val .none) env := (rfl)
theorem e_IfS : dIfS c t u De env = c env fun b env1 => brP b (t De env1) (u De env1) := (rfl)
theorem e_Asg : dAsg ra tg De env = ra env fun R env1 => vaP R fun d => optP (tgSet tg d env1) fun env2 => De.nx env2 := by
  unfold dAsg; simp only [← vaP_ex, ← optP_ex, exists_and_left]
theorem e_AsgN : dAsgN i rn De env = rn env fun m env1 => optP (some (env1.set i (.mu m))) De.nx := (rfl)
theorem e_AsgLc : dAsgLc i rn De env = rn env fun m env1 => muP m fun ds => optP (some (env1.set i (.val (.list ds)))) De.nx := by
  unfold dAsgLc; simp only [← muP_ex]; rfl
theorem e_mNil : dmNil env QM = QM [] env := (rfl)
theorem e_mVal : dmVal ra rm env QM = ra env fun R env1 => vaP R fun d => rm env1 fun Rs env2 => QM (.val d :: Rs) env2 := by
  unfold dmVal; simp only [← vaP_ex]
theorem e_mNew : dmNew rn rm env QM = rn env fun m env1 => rm env1 fun Rs env2 => QM (.new m :: Rs) env2 := (rfl)
theorem e_Par : dPar is rm De env = rm env fun Rs env1 => Rs.length = is.length ∧ optP (some (setAll is Rs env1)) De.nx := (rfl)
theorem e_For {b : RS} : dFor ri tg b De env = ri env fun items env1 => dLoop tg b De items env1 := (rfl)
theorem e_LoopN {b : RS} : dLoop tg b De [] env = De.nx env := (rfl)
theorem e_LoopC {b : RS} {d : PyData} {ds : List PyData} : dLoop tg b De (d :: ds) env = optP (tgSet tg d env) fun env1 => b { nx := dLoop tg b De ds, rt := De.rt, bk := De.nx, ct := dLoop tg b De ds } env1 := by
  rw [← optP_ex]
  exact (rfl)
theorem e_Lc {tt : RT} {te : RE} {vs : List Nat} : dLc ri tg tt te vs env QN = ri env fun items env1 => noMu env1.sl vs = true ∧ dLcGo tg tt te vs (fun acc env => QN (.lst acc) env) items [] env1 := (rfl)
theorem e_Yes : dYes env QT = QT true env := (rfl)
theorem e_Call : dCall T n md rs env Q = rs env fun Rs env1 => optP (conv env1 md Rs) fun p => p.1.length = n ∧ (p.2.1.all fun o => (o.get env1).isSome && !p.2.2.contains o) = true ∧
    T.run p.1 (obsMu env1 p.2.1) fun R xt' => xt'.length = p.2.1.length ∧ (p.2.2 = [] ∨ (pureRes R = true ∧ xt'.all pureMu = true)) ∧ (match R with
      | .val d => Q (.val d) (putObs env1 p.2.1 xt')
      | .new (.lst ds) => Q (.val (.list ds)) (putObs env1 p.2.1 xt')
      | _ => False) := by
  unfold dCall dCallK
  congr 1
  funext Rs env1
  rw [← optP_ex]
  refine propext ⟨fun ⟨a, o, l, e, h⟩ => ⟨(a, o, l), e, h⟩, fun ⟨⟨a, o, l⟩, e, h⟩ => ⟨a, o, l, e, h⟩⟩
theorem e_CallN : dCallN T n md rs env QN = rs env fun Rs env1 => optP (conv env1 md Rs) fun p => p.1.length = n ∧ (p.2.1.all fun o => (o.get env1).isSome && !p.2.2.contains o) = true ∧
    T.run p.1 (obsMu env1 p.2.1) fun R xt' => xt'.length = p.2.1.length ∧ (p.2.2 = [] ∨ (pureRes R = true ∧ xt'.all pureMu = true)) ∧ (match R with
      | .val _ => False
      | .new m => QN m (putObs env1 p.2.1 xt')) := by
  unfold dCallN dCallK
  congr 1
  funext Rs env1
  rw [← optP_ex]
  refine propext ⟨fun ⟨a, o, l, e, h⟩ => ⟨(a, o, l), e, h⟩, fun ⟨⟨a, o, l⟩, e, h⟩ => ⟨a, o, l, e, h⟩⟩
/-! things that change -/
def lstAt (env : En) (o : Ob) : Option (List D) := (o.get env).bind fun m => match m with
  | .lst ds => some ds
  | _ => none
theorem lst_ex {o : Ob} {P : List PyData → Prop} : (∃ ds, o.get env = some (.lst ds) ∧ P ds) = optP (lstAt env o) P := by
  unfold lstAt
  cases o.get env with
  | none => simp [optP]
  | some m => cases m <;> simp [optP]
theorem lst_ex0 {o : Ob} {P : Prop} : (∃ ds, o.get env = some (.lst ds) ∧ P) = optP (lstAt env o) fun _ => P := lst_ex
theorem e_Append : dAppend i ra env Q = optP (obAt env i) fun o => optP (lstAt env o) fun _ => ra env fun R env1 => vaP R fun d => obAt env1 i = some o ∧ optP (lstAt env1 o) fun ds => ds.length < 10000 ∧ optP (some (o.put env1 (.lst (ds ++ [d])))) fun e => Q (.val .none) e := by
  unfold dAppend
  simp only [exists_and_left, optP_ex, vaP_ex, lst_ex, optP_some]
def lsOf : Rv → Option (List PyData)
  | .val (.list ds) => some ds
  | _ => none
theorem ls_ex {R : Rv} {P : List PyData → Prop} : (∃ es, R = .val (.list es) ∧ P es) = optP (lsOf R) P := by
  cases R with
  | val d => cases d <;> simp [lsOf, optP]
  | _ => simp [lsOf, optP]
theorem e_Extend : dExtend i ra env Q = optP (obAt env i) fun o => optP (lstAt env o) fun _ => ra env fun R env1 => optP (lsOf R) fun es => obAt env1 i = some o ∧ optP (lstAt env1 o) fun ds => ds.length + es.length ≤ 10000 ∧ optP (some (o.put env1 (.lst (ds ++ es)))) fun e => Q (.val .none) e := by
  unfold dExtend
  simp only [exists_and_left, optP_ex, ls_ex, lst_ex, optP_some]
theorem e_Pop : dPop i env Q = optP (obAt env i) fun o => optP (lstAt env o) fun ds => optP (ds[ds.length - 1]?) fun d => optP (some (o.put env (.lst ds.dropLast))) fun e => Q (.val d) e := by
  unfold dPop
  simp only [exists_and_left, optP_ex, lst_ex, optP_some]
def ntOf : Rv → Option Nat
  | .val (.int i) => if 0 ≤ i then some i.toNat else none
  | _ => none
theorem nt_of {k : Nat} : ntOf (.val (.int (k : Int))) = some k := by
  unfold ntOf
  simp only [Int.toNat_natCast]
  exact if_pos (by omega)
theorem nt_ex {R : Rv} {P : Nat → Prop} : (∃ n : Nat, R = .val (.int n) ∧ P n) = optP (ntOf R) P := by
  rw [← optP_ex]
  refine propext ⟨fun ⟨n, e, p⟩ => ⟨n, by rw [e]; exact nt_of, p⟩, fun ⟨n, e, p⟩ => ⟨n, ?_, p⟩⟩
  unfold ntOf at e
  split at e
  · split at e
    · cases e
      congr 2
      omega
    · cases e
  · cases e
theorem nt_0 : ntOf (.val (.int 0)) = some 0 := nt_of (k := 0)
theorem nt_1 : ntOf (.val (.int 1)) = some 1 := nt_of (k := 1)
theorem e_PopAt : dPopAt i ra env Q = optP (obAt env i) fun o => optP (lstAt env o) fun _ => ra env fun R env1 => optP (ntOf R) fun n => obAt env1 i = some o ∧ optP (lstAt env1 o) fun ds => optP (ds[n]?) fun d => ds.length ≤ 10000 ∧ optP (some (o.put env1 (.lst (ds.eraseIdx n)))) fun e => Q (.val d) e := by
  unfold dPopAt
  simp only [exists_and_left, optP_ex, lst_ex, nt_ex, optP_some]
theorem e_SetAt : dSetAt i ra rb De env = ra env fun R env1 => vaP R fun d => optP (obAt env1 i) fun o => optP (lstAt env1 o) fun _ => rb env1 fun R2 env2 => optP (ntOf R2) fun n => obAt env2 i = some o ∧ optP (lstAt env2 o) fun ds => n < ds.length ∧ optP (some (o.put env2 (.lst (ds.set n d)))) De.nx := by
  unfold dSetAt
  simp only [exists_and_left, optP_ex, lst_ex, nt_ex, optP_some, vaP_ex]
variable {rl rh : RP} {QP : Option Int → En → Prop}
theorem e_Sl : dSl ra rl rh env Q = ra env fun R env1 => rl env1 fun lo env2 => rh env2 fun hi env3 => optP (R.d env3) fun d => optP (fSl d lo hi) fun dz => Q (.val dz) env3 := by
  unfold dSl; simp only [exists_and_left, optP_ex]
theorem e_NoP : dNoP env QP = QP none env := (rfl)
theorem e_P : dP ra env QP = ra env fun R env1 => inP R fun i => QP (some i) env1 := by
  unfold dP; simp only [inP_ex]
def kssOf : D → Option (List (List Int)) := fun _ => none
theorem e_Aug : dAug i f ra De env = optP ((env.sl[i]?).bind fun s => match s with | .val d => some d | _ => none) fun dx => ra env fun R env1 => optP (R.d env1) fun dy => optP (f dx dy) fun dz => optP (some (env1.set i (.val dz))) De.nx := by
  unfold dAug
  have e : ∀ (o : Option Sl) (P : PyData → Prop), (∃ dx, o = some (.val dx) ∧ P dx) = optP (o.bind fun s => match s with | .val d => some d | _ => none) P := fun o P => by
    cases o with
    | none => simp [optP]
    | some s => cases s <;> simp [optP]
  simp only [e, exists_and_left, optP_ex, optP_some]
theorem e_SrtSet : dSrtSet ra env QN = ra env fun R env1 => optP (R.d env1) fun d => ∃ kss : List (List Int), d = .list (kss.map tI) ∧ kss.length < 64 ∧ ∀ out, SSet kss out → QN (.lst (out.map tI)) env1 := by
  unfold dSrtSet
  congr 1
  funext R env1
  rw [← optP_ex]
  exact propext ⟨fun ⟨k, e, h⟩ => ⟨_, e, k, rfl, h⟩, fun ⟨d, e, k, e2, h⟩ => ⟨k, by rw [e, e2], h⟩⟩
theorem isi_bi {x : Int} : isiD "bool" (.int x) = some false := by rfl
theorem isi_bn : isiD "bool" .none = some false := by rfl
theorem isi_bb {x : Bool} : isiD "bool" (.bool x) = some true := by rfl
theorem isi_bt {x : List PyData} : isiD "bool" (.tuple x) = some false := by rfl
theorem isi_bs {x : Str} : isiD "bool" (.str x) = some false := by rfl
theorem isi_ti {x : Int} : isiD "tuple" (.int x) = some false := by rfl
theorem isi_tn : isiD "tuple" .none = some false := by rfl
theorem isi_tb {x : Bool} : isiD "tuple" (.bool x) = some false := by rfl
theorem isi_tt {x : List PyData} : isiD "tuple" (.tuple x) = some true := by rfl
theorem isi_ts {x : Str} : isiD "tuple" (.str x) = some false := by rfl
theorem isi_si {x : Int} : isiD "str" (.int x) = some false := by rfl
theorem isi_sn : isiD "str" .none = some false := by rfl
theorem isi_sb {x : Bool} : isiD "str" (.bool x) = some false := by rfl
theorem isi_st {x : List PyData} : isiD "str" (.tuple x) = some false := by rfl
theorem isi_ss {x : Str} : isiD "str" (.str x) = some true := by rfl
theorem isi_ii {x : Int} : isiD "int" (.int x) = some true := by rfl
theorem isi_in : isiD "int" .none = some false := by rfl
theorem isi_ib {x : Bool} : isiD "int" (.bool x) = some true := by rfl
theorem isi_it {x : List PyData} : isiD "int" (.tuple x) = some false := by rfl
theorem isi_is {x : Str} : isiD "int" (.str x) = some false := by rfl
theorem orS_l {t u : RS} {De : DEnds} {env : En} (h : t De env) : dOrS t u De env := Or.inl h
theorem orS_r {t u : RS} {De : DEnds} {env : En} (h : u De env) : dOrS t u De env := Or.inr h
/-- nothing that changes -/
def nMu : Sl → Prop
  | .mu _ => False
  | _ => True
def isMu : Option Sl → Bool
  | some (.mu _) => true
  | _ => false
theorem noMu_n {l : List Sl} : noMu l [] = true := (rfl)
theorem noMu_c {l : List Sl} {i : Nat} {is : List Nat} : noMu l (i :: is) = (!isMu (l[i]?) && noMu l is) := by
  unfold noMu
  rw [List.all_cons]
  congr 1
  cases l[i]? with
  | none => rfl
  | some s => cases s <;> rfl
theorem isMu_v {d : PyData} : isMu (some (.val d)) = false := (rfl)
theorem isMu_u : isMu (some .un) = false := (rfl)
theorem isMu_e {k : Nat} : isMu (some (.ext k)) = false := (rfl)
theorem isMu_s {k : List Int} : isMu (some (.scr k)) = false := (rfl)
theorem isMu_of {s : Sl} (h : nMu s) : (!isMu (some s)) = true := by cases s <;> first | rfl | exact h.elim
/-! operators with a condition -/
variable {a b : Int} {P : PyData → Prop} {ds es : List PyData}
theorem p_iff {o : Option PyData} {c : Prop} {r : PyData} (h : ∀ d, o = some d ↔ (c ∧ r = d)) : optP o P = (c ∧ P r) := by
  rw [← optP_ex]
  exact propext ⟨fun ⟨d, e, p⟩ => by obtain ⟨h1, rfl⟩ := (h d).mp e; exact ⟨h1, p⟩, fun ⟨h1, p⟩ => ⟨r, (h r).mpr ⟨h1, rfl⟩, p⟩⟩
theorem p_mul : optP (fMul (.int a) (.int b)) P = (((-(2 ^ 64) < a ∧ a < 2 ^ 64) ∨ (-(2 ^ 64) < b ∧ b < 2 ^ 64)) ∧ P (.int (a * b))) := p_iff fun _ => x_mul
theorem p_mod : optP (fMod (.int a) (.int b)) P = (0 < b ∧ P (.int (a % b))) := p_iff fun _ => x_mod
theorem p_div : optP (fDiv (.int a) (.int b)) P = ((0 < b ∧ b < 1073741824) ∧ P (.int (a / b))) := p_iff fun _ => x_div
theorem p_pow : optP (fPow (.int a) (.int b)) P = ((0 ≤ b ∧ b ≤ 1000000 ∧ a.natAbs < 2 ^ 64) ∧ P (.int (a ^ b.toNat))) := p_iff fun _ => x_pow
theorem p_catT : optP (fAdd (.tuple ds) (.tuple es)) P = (ds.length + es.length ≤ 10000 ∧ P (.tuple (ds ++ es))) := p_iff fun _ => x_catT
theorem p_catL : optP (fAdd (.list ds) (.list es)) P = (ds.length + es.length ≤ 10000 ∧ P (.list (ds ++ es))) := p_iff fun _ => x_catL
theorem p_maxI (l : List Int) : optP (fMax [.list (l.map PyData.int)]) P = (0 < l.length ∧ P (.int (maxI l))) := p_iff fun _ => x_maxI l
theorem p_minI (l : List Int) : optP (fMin [.list (l.map PyData.int)]) P = (0 < l.length ∧ P (.int (minI l))) := p_iff fun _ => x_minI l
end
section
variable {X : Cx} {k n : Nat} {ps : List Str} {x : Str} {p pos : Pos} {e : Expr} {es : List Expr} {rs : RA} {T : DSp} {md : List Bool}
theorem de_cal (c : Cal X.prog X.w X.K X.mg X.base x k ps T) (hr : Room k X.A) (ha : DA X (e :: es) rs) (hn : ps.length = n := by rfl) (hg : Gl X x := by rfl) (hdb : (x == ("__debug__" : Str)) = false := by decide)
    (he : starEach (e :: es) X.env = (false, eval e X.env) :: starEach es X.env := by rfl) (hpl : (backTo pos (starEach es X.env)).any (·.1) = false := by rfl) : DE X (.Call (.Name x p) (e :: es) [] pos) (dCall T n md rs) := by
  subst hn
  exact de_callC c hr md ha hg hdb he hpl
theorem dn_cal (c : Cal X.prog X.w X.K X.mg X.base x k ps T) (hr : Room k X.A) (ha : DA X (e :: es) rs) (hn : ps.length = n := by rfl) (hg : Gl X x := by rfl) (hdb : (x == ("__debug__" : Str)) = false := by decide)
    (he : starEach (e :: es) X.env = (false, eval e X.env) :: starEach es X.env := by rfl) (hpl : (backTo pos (starEach es X.env)).any (·.1) = false := by rfl) : DN X (.Call (.Name x p) (e :: es) [] pos) (dCallN T n md rs) := by
  subst hn
  exact dn_callC c hr md ha hg hdb he hpl
end
/-- the start of a law -/
theorem start_law {K : PySem.W.Frag} {H : Hp} {a : Addr} {ns : List Int} {S : DSpec} {Q : VK} {E : XK} (h : SqL K H a (ns.map V.int)) (q : S [.scr ns] [] fun R xt' => ∀ v F' H', Grow H H F' H' → Ex (fun _ => none) H' → Ex F' H' → ExtOk K (fun _ => none) (fun _ => 0) F' H' xt' → ResIs K (fun _ => none) (fun _ => 0) F' ⟨[], xt'⟩ H' R v → Q v H') :
    spD K 1 S [.ref a] H Q E :=
  ⟨fun _ => none, fun _ => 0, H, [.scr ns], [], Ex.refl H, fun _ _ (z : (none : Option HO) = some _) => (by cases z), ArgsAre.cons ⟨a, rfl, h⟩ ArgsAre.nil, rfl, ⟨fun k m z => by simp at z, fun k l mk ml z => by simp at z⟩, q⟩
end Dl
namespace Dl
open PySem L2
def Bx (xt : List Mu) : Prop := ∃ g r : Int, xt = [.lst [.int g, .int r]]
def T__law_take : DSp where
  run := fun args xt Q => ∃ m : Int, args = [.ext 0, .val (.int m)] ∧ Bx xt ∧ 0 < m ∧ m < 1073741824 ∧ ∀ n xt', 0 ≤ n → n < m → Bx xt' → Q (.val (.int n)) xt'
  mono := fun k ⟨m, e, b, h1, h2, q⟩ => ⟨m, e, b, h1, h2, fun n xt' a c d => k _ _ (q n xt' a c d)⟩
def r__law_take : RS := dSeq (dIfS (dB (dOp fGt (dOp fIx (dV 0) (dC (.int 0))) (dC (.int 0)))) (dSeq (dAsg (dOp fMod (dCB fInt (dCons (dOp fIx (dV 0) (dC (.int 0))) dNil)) (dV 1)) (.nm 2)) (dSeq (dSetAt 0 (dOp fDiv (dOp fIx (dV 0) (dC (.int 0))) (dV 1)) (dC (.int 0))) (dRet (dV 2)))) dNext) (dSeq (dAsg (dOp fMod (dCB fInt (dCons (dOp fAdd (dOp fMul (dOp fIx (dV 0) (dC (.int 1))) (dC (.int 39373))) (dC (.int 419))) dNil)) (dC (.int 2147483647))) (.nm 3)) (dSeq (dSetAt 0 (dOp fAdd (dOp fMod (dCB fInt (dCons (dOp fAdd (dOp fMul (dV 3) (dC (.int 40692))) (dC (.int 43))) dNil)) (dC (.int 2147483399))) (dC (.int 1))) (dC (.int 1))) (dRet (dOp fMod (dCB fInt (dCons (dOp fDiv (dOp fAdd (dOp fMul (dV 3) (dC (.int 2147483629))) (dOp fIx (dV 0) (dC (.int 1)))) (dC (.int 8209))) dNil)) (dV 1)))))
theorem pure__law_take (args : List Arg) (xt : List Mu) (Q : Res → List Mu → Prop) (hl : args.length = 2) (h : T__law_take.run args xt Q) :
    r__law_take { nx := fun e => Q (.val .none) e.xt, rt := fun R e => Q R e.xt } (env0 args 4 xt) := by
  obtain ⟨m, rfl, ⟨g, r, rfl⟩, h1, h2, q⟩ := h
  unfold r__law_take
  simp only [↓e_C, ↓e_V, ↓e_Fz, ↓e_Op, ↓e_Un, ↓e_B, ↓e_Chain, ↓e_AndT, ↓e_OrT, ↓e_NotT, ↓e_AndV, ↓e_OrV, ↓e_NotV, ↓e_If, ↓e_Nil, ↓e_Cons, ↓e_Tup, ↓e_Lst, ↓e_CB, ↓e_CBN, ↓e_Isi, ↓e_TupRg1, ↓e_LstRg1, ↓e_TupRg2, ↓e_LstRg2, ↓e_ScrLen, ↓e_ScrAt, ↓e_SeqI, ↓e_Enum, ↓e_Rng1, ↓e_Rng2, ↓e_Seq, ↓e_Next, ↓e_Break, ↓e_Cont, ↓e_Drop, ↓e_Ret, ↓e_RetN, ↓e_Ret0, ↓e_IfS, ↓e_Asg, ↓e_AsgN, ↓e_AsgLc, ↓e_mNil, ↓e_mVal, ↓e_mNew, ↓e_Par, ↓e_For, ↓e_LoopN, ↓e_LoopC, ↓e_Lc, ↓e_Yes, ↓e_Call, ↓e_CallN, ↓e_Append, ↓e_Extend, ↓e_Pop, ↓e_PopAt, ↓e_SetAt, ↓e_Sl, ↓e_NoP, ↓e_P, ↓e_Aug, ↓e_SrtSet, optP_some, vaP_val, boP_val, inP_val, muP_lst, vals_nil, vals_cons, brP_t, brP_f, brP_d, brP_n, scrOf, rg1, rg2, lstAt, lsOf, nt_of, nt_0, nt_1, slotR, slNew, slMu, slOf, setAll, Dl.En.set, Dl.En.wipe, wipeL, noMu_n, noMu_c, isMu_v, isMu_u, isMu_e, isMu_s, tg_nm, Dl.tg_tup, tgs_nil, tgs_cons, fSl, Rv.d, Rv.m, muD, rvDs, obAt, rvOb, obget_s, obget_e, obput_s, obput_e, put_nil, put_one, conv, argOf, argSlot, argExt, obsMu, seqD, env0, argSl, p_mul, p_mod, p_div, p_pow, p_catT, p_catL, p_maxI, p_minI, List.map_cons, List.map_nil, List.replicate_succ, List.replicate_zero, List.length_cons, List.length_nil, List.nil_append, List.cons_append, List.append_nil, List.getElem?_cons_zero, List.getElem?_cons_succ, List.getElem?_nil, List.set_cons_zero, List.set_cons_succ, List.set_nil, Option.bind_some, Option.bind_none, Option.map_some, Option.map_none, Option.some.injEq, Option.isSome_some, List.all_cons, List.all_nil, List.contains_nil, Bool.and_true, Bool.not_false, Bool.true_and, Rv.val.injEq, PyData.int.injEq, PyData.bool.injEq, PyData.tuple.injEq, PyData.list.injEq, and_assoc, Prod.mk.injEq, reduceCtorEq, Mu.lst.injEq, Int.reducePow, Int.reduceNeg, Int.reduceLT, Int.reduceLE, Int.reduceMul, Int.reduceAdd, Int.reduceSub, Int.reduceToNat, Nat.reduceLT, Nat.reduceLeDiff, Nat.zero_le, or_true, true_or, and_self, not_false_eq_true, forall_const, implies_true, if_true_left, false_or, or_false, p_oD, cut2m, List.all_cons, not_true_eq_false, false_implies, isi_bi, isi_bn, isi_bb, isi_bt, isi_bs, isi_ti, isi_tn, isi_tb, isi_tt, isi_ts, isi_si, isi_sn, isi_sb, isi_st, isi_ss, isi_ii, isi_in, isi_ib, isi_it, isi_is, x_add, x_sub, x_neg, x_lt, x_le, x_gt, x_ge, x_eqI, x_neI, x_is, x_isNot, x_ixL, x_ixT, x_int, x_abs, x_lenL, x_lenT, x_tupL, x_tupT, x_lstL, x_lstT, x_max2, x_min2, at0, at1, at2, at3, atNat, x_inT, x_inL, x_notInT, x_notInL, x_all, x_any, x_sumI, x_nilI, x_nnilI, x_nnilJ, x_eqT, x_neT, x_eqO, x_eqOI, isNone_oD, oD_n, oD_s, decide_eq_true_eq, decide_eq_false_iff_not, true_and, and_true, Nat.sub_self, Nat.reduceSub, Nat.reduceAdd, ite_true, Option.some_inj, eq_self, isNone, Bool.not_true, Int.reduceEq, decide_true, decide_false, exists_eq_left', exists_eq_left, dl_1, dl_2, eq_nn, ne_nn, rgD_hs, Int.toNat_natCast, List.length_map, cut40]
  exact ⟨fun _ => ⟨h1, h1, h2, q _ _ (Int.emod_nonneg _ (by omega)) (Int.emod_lt_of_pos _ h1) ⟨_, _, rfl⟩⟩, fun _ => ⟨h1, q _ _ (Int.emod_nonneg _ (by omega)) (Int.emod_lt_of_pos _ h1) ⟨_, _, rfl⟩⟩⟩
end Dl
namespace Dl
open PySem L2
abbrev tF (f : List (List Int)) : D := .tuple (f.map tI)
def within (a b : List Int) : Bool := a.all fun x => b.contains x
abbrev PureOk (T : DSp) (n k : Nat) (r : RS) : Prop := ∀ (args : List Arg) (xt : List Mu) (Q : Res → List Mu → Prop), args.length = n → T.run args xt Q → r { nx := fun e => Q (.val .none) e.xt, rt := fun R e => Q R e.xt } (env0 args k xt)
def T_is_within : DSp where
  run := fun args xt Q => ∃ a b : List Int, args = [.val (tI a), .val (tI b)] ∧ a.length ≤ 10000 ∧ Q (.val (.bool (within a b))) xt
  mono := fun k ⟨a, b, e, h, q⟩ => ⟨a, b, e, h, k _ _ q⟩
def r_is_within : RS := dRet (dCB fAll (dCons (dFz (dLc (dSeqI (dV 0)) (.nm 2) dYes (dOp (fIn false) (dV 2) (dV 1)) [2])) dNil))
theorem pure_is_within : PureOk T_is_within 2 3 r_is_within := by
  rintro _ xt Q _ ⟨a, b, rfl, hl, q⟩
  unfold r_is_within
  simp only [↓e_C, ↓e_V, ↓e_Fz, ↓e_Op, ↓e_Un, ↓e_B, ↓e_Chain, ↓e_AndT, ↓e_OrT, ↓e_NotT, ↓e_AndV, ↓e_OrV, ↓e_NotV, ↓e_If, ↓e_Nil, ↓e_Cons, ↓e_Tup, ↓e_Lst, ↓e_CB, ↓e_CBN, ↓e_Isi, ↓e_TupRg1, ↓e_LstRg1, ↓e_TupRg2, ↓e_LstRg2, ↓e_ScrLen, ↓e_ScrAt, ↓e_SeqI, ↓e_Enum, ↓e_Rng1, ↓e_Rng2, ↓e_Seq, ↓e_Next, ↓e_Break, ↓e_Cont, ↓e_Drop, ↓e_Ret, ↓e_RetN, ↓e_Ret0, ↓e_IfS, ↓e_Asg, ↓e_AsgN, ↓e_AsgLc, ↓e_mNil, ↓e_mVal, ↓e_mNew, ↓e_Par, ↓e_For, ↓e_LoopN, ↓e_LoopC, ↓e_Lc, ↓e_Yes, ↓e_Call, ↓e_CallN, ↓e_Append, ↓e_Extend, ↓e_Pop, ↓e_PopAt, ↓e_SetAt, ↓e_Sl, ↓e_NoP, ↓e_P, ↓e_Aug, ↓e_SrtSet, optP_some, vaP_val, boP_val, inP_val, muP_lst, vals_nil, vals_cons, brP_t, brP_f, brP_d, brP_n, scrOf, rg1, rg2, lstAt, lsOf, nt_of, nt_0, nt_1, slotR, slNew, slMu, slOf, setAll, Dl.En.set, Dl.En.wipe, wipeL, noMu_n, noMu_c, isMu_v, isMu_u, isMu_e, isMu_s, tg_nm, Dl.tg_tup, tgs_nil, tgs_cons, fSl, Rv.d, Rv.m, muD, rvDs, obAt, rvOb, obget_s, obget_e, obput_s, obput_e, put_nil, put_one, conv, argOf, argSlot, argExt, obsMu, seqD, env0, argSl, p_mul, p_mod, p_div, p_pow, p_catT, p_catL, p_maxI, p_minI, List.map_cons, List.map_nil, List.replicate_succ, List.replicate_zero, List.length_cons, List.length_nil, List.nil_append, List.cons_append, List.append_nil, List.getElem?_cons_zero, List.getElem?_cons_succ, List.getElem?_nil, List.set_cons_zero, List.set_cons_succ, List.set_nil, Option.bind_some, Option.bind_none, Option.map_some, Option.map_none, Option.some.injEq, Option.isSome_some, List.all_cons, List.all_nil, List.contains_nil, Bool.and_true, Bool.not_false, Bool.true_and, Rv.val.injEq, PyData.int.injEq, PyData.bool.injEq, PyData.tuple.injEq, PyData.list.injEq, and_assoc, Prod.mk.injEq, reduceCtorEq, Mu.lst.injEq, Int.reducePow, Int.reduceNeg, Int.reduceLT, Int.reduceLE, Int.reduceMul, Int.reduceAdd, Int.reduceSub, Int.reduceToNat, Nat.reduceLT, Nat.reduceLeDiff, Nat.zero_le, or_true, true_or, and_self, not_false_eq_true, forall_const, implies_true, if_true_left, false_or, or_false, p_oD, cut2m, List.all_cons, not_true_eq_false, false_implies, isi_bi, isi_bn, isi_bb, isi_bt, isi_bs, isi_ti, isi_tn, isi_tb, isi_tt, isi_ts, isi_si, isi_sn, isi_sb, isi_st, isi_ss, isi_ii, isi_in, isi_ib, isi_it, isi_is, x_add, x_sub, x_neg, x_lt, x_le, x_gt, x_ge, x_eqI, x_neI, x_is, x_isNot, x_ixL, x_ixT, x_int, x_abs, x_lenL, x_lenT, x_tupL, x_tupT, x_lstL, x_lstT, x_max2, x_min2, at0, at1, at2, at3, atNat, x_inT, x_inL, x_notInT, x_notInL, x_all, x_any, x_sumI, x_nilI, x_nnilI, x_nnilJ, x_eqT, x_neT, x_eqO, x_eqOI, isNone_oD, oD_n, oD_s, decide_eq_true_eq, decide_eq_false_iff_not, true_and, and_true, Nat.sub_self, Nat.reduceSub, Nat.reduceAdd, ite_true, Option.some_inj, eq_self, isNone, Bool.not_true, Int.reduceEq, decide_true, decide_false, exists_eq_left', exists_eq_left, dl_1, dl_2, eq_nn, ne_nn, rgD_hs, Int.toNat_natCast, List.length_map, cut40]
  refine lcGo_map (enc := PyData.int) (fun x => .bool (b.contains x)) a hl (fun x _ => ⟨_, rfl, rfl, fun QE h => ?_⟩) ?_
  · simp only [↓e_C, ↓e_V, ↓e_Fz, ↓e_Op, ↓e_Un, ↓e_B, ↓e_Chain, ↓e_AndT, ↓e_OrT, ↓e_NotT, ↓e_AndV, ↓e_OrV, ↓e_NotV, ↓e_If, ↓e_Nil, ↓e_Cons, ↓e_Tup, ↓e_Lst, ↓e_CB, ↓e_CBN, ↓e_Isi, ↓e_TupRg1, ↓e_LstRg1, ↓e_TupRg2, ↓e_LstRg2, ↓e_ScrLen, ↓e_ScrAt, ↓e_SeqI, ↓e_Enum, ↓e_Rng1, ↓e_Rng2, ↓e_Seq, ↓e_Next, ↓e_Break, ↓e_Cont, ↓e_Drop, ↓e_Ret, ↓e_RetN, ↓e_Ret0, ↓e_IfS, ↓e_Asg, ↓e_AsgN, ↓e_AsgLc, ↓e_mNil, ↓e_mVal, ↓e_mNew, ↓e_Par, ↓e_For, ↓e_LoopN, ↓e_LoopC, ↓e_Lc, ↓e_Yes, ↓e_Call, ↓e_CallN, ↓e_Append, ↓e_Extend, ↓e_Pop, ↓e_PopAt, ↓e_SetAt, ↓e_Sl, ↓e_NoP, ↓e_P, ↓e_Aug, ↓e_SrtSet, optP_some, vaP_val, boP_val, inP_val, muP_lst, vals_nil, vals_cons, brP_t, brP_f, brP_d, brP_n, scrOf, rg1, rg2, lstAt, lsOf, nt_of, nt_0, nt_1, slotR, slNew, slMu, slOf, setAll, Dl.En.set, Dl.En.wipe, wipeL, noMu_n, noMu_c, isMu_v, isMu_u, isMu_e, isMu_s, tg_nm, Dl.tg_tup, tgs_nil, tgs_cons, fSl, Rv.d, Rv.m, muD, rvDs, obAt, rvOb, obget_s, obget_e, obput_s, obput_e, put_nil, put_one, conv, argOf, argSlot, argExt, obsMu, seqD, env0, argSl, p_mul, p_mod, p_div, p_pow, p_catT, p_catL, p_maxI, p_minI, List.map_cons, List.map_nil, List.replicate_succ, List.replicate_zero, List.length_cons, List.length_nil, List.nil_append, List.cons_append, List.append_nil, List.getElem?_cons_zero, List.getElem?_cons_succ, List.getElem?_nil, List.set_cons_zero, List.set_cons_succ, List.set_nil, Option.bind_some, Option.bind_none, Option.map_some, Option.map_none, Option.some.injEq, Option.isSome_some, List.all_cons, List.all_nil, List.contains_nil, Bool.and_true, Bool.not_false, Bool.true_and, Rv.val.injEq, PyData.int.injEq, PyData.bool.injEq, PyData.tuple.injEq, PyData.list.injEq, and_assoc, Prod.mk.injEq, reduceCtorEq, Mu.lst.injEq, Int.reducePow, Int.reduceNeg, Int.reduceLT, Int.reduceLE, Int.reduceMul, Int.reduceAdd, Int.reduceSub, Int.reduceToNat, Nat.reduceLT, Nat.reduceLeDiff, Nat.zero_le, or_true, true_or, and_self, not_false_eq_true, forall_const, implies_true, if_true_left, false_or, or_false, p_oD, cut2m, List.all_cons, not_true_eq_false, false_implies, isi_bi, isi_bn, isi_bb, isi_bt, isi_bs, isi_ti, isi_tn, isi_tb, isi_tt, isi_ts, isi_si, isi_sn, isi_sb, isi_st, isi_ss, isi_ii, isi_in, isi_ib, isi_it, isi_is, x_add, x_sub, x_neg, x_lt, x_le, x_gt, x_ge, x_eqI, x_neI, x_is, x_isNot, x_ixL, x_ixT, x_int, x_abs, x_lenL, x_lenT, x_tupL, x_tupT, x_lstL, x_lstT, x_max2, x_min2, at0, at1, at2, at3, atNat, x_inT, x_inL, x_notInT, x_notInL, x_all, x_any, x_sumI, x_nilI, x_nnilI, x_nnilJ, x_eqT, x_neT, x_eqO, x_eqOI, isNone_oD, oD_n, oD_s, decide_eq_true_eq, decide_eq_false_iff_not, true_and, and_true, Nat.sub_self, Nat.reduceSub, Nat.reduceAdd, ite_true, Option.some_inj, eq_self, isNone, Bool.not_true, Int.reduceEq, decide_true, decide_false, exists_eq_left', exists_eq_left, dl_1, dl_2, eq_nn, ne_nn, rgD_hs, Int.toNat_natCast, List.length_map, cut40]
    exact h
  · simp only [↓e_C, ↓e_V, ↓e_Fz, ↓e_Op, ↓e_Un, ↓e_B, ↓e_Chain, ↓e_AndT, ↓e_OrT, ↓e_NotT, ↓e_AndV, ↓e_OrV, ↓e_NotV, ↓e_If, ↓e_Nil, ↓e_Cons, ↓e_Tup, ↓e_Lst, ↓e_CB, ↓e_CBN, ↓e_Isi, ↓e_TupRg1, ↓e_LstRg1, ↓e_TupRg2, ↓e_LstRg2, ↓e_ScrLen, ↓e_ScrAt, ↓e_SeqI, ↓e_Enum, ↓e_Rng1, ↓e_Rng2, ↓e_Seq, ↓e_Next, ↓e_Break, ↓e_Cont, ↓e_Drop, ↓e_Ret, ↓e_RetN, ↓e_Ret0, ↓e_IfS, ↓e_Asg, ↓e_AsgN, ↓e_AsgLc, ↓e_mNil, ↓e_mVal, ↓e_mNew, ↓e_Par, ↓e_For, ↓e_LoopN, ↓e_LoopC, ↓e_Lc, ↓e_Yes, ↓e_Call, ↓e_CallN, ↓e_Append, ↓e_Extend, ↓e_Pop, ↓e_PopAt, ↓e_SetAt, ↓e_Sl, ↓e_NoP, ↓e_P, ↓e_Aug, ↓e_SrtSet, optP_some, vaP_val, boP_val, inP_val, muP_lst, vals_nil, vals_cons, brP_t, brP_f, brP_d, brP_n, scrOf, rg1, rg2, lstAt, lsOf, nt_of, nt_0, nt_1, slotR, slNew, slMu, slOf, setAll, Dl.En.set, Dl.En.wipe, wipeL, noMu_n, noMu_c, isMu_v, isMu_u, isMu_e, isMu_s, tg_nm, Dl.tg_tup, tgs_nil, tgs_cons, fSl, Rv.d, Rv.m, muD, rvDs, obAt, rvOb, obget_s, obget_e, obput_s, obput_e, put_nil, put_one, conv, argOf, argSlot, argExt, obsMu, seqD, env0, argSl, p_mul, p_mod, p_div, p_pow, p_catT, p_catL, p_maxI, p_minI, List.map_cons, List.map_nil, List.replicate_succ, List.replicate_zero, List.length_cons, List.length_nil, List.nil_append, List.cons_append, List.append_nil, List.getElem?_cons_zero, List.getElem?_cons_succ, List.getElem?_nil, List.set_cons_zero, List.set_cons_succ, List.set_nil, Option.bind_some, Option.bind_none, Option.map_some, Option.map_none, Option.some.injEq, Option.isSome_some, List.all_cons, List.all_nil, List.contains_nil, Bool.and_true, Bool.not_false, Bool.true_and, Rv.val.injEq, PyData.int.injEq, PyData.bool.injEq, PyData.tuple.injEq, PyData.list.injEq, and_assoc, Prod.mk.injEq, reduceCtorEq, Mu.lst.injEq, Int.reducePow, Int.reduceNeg, Int.reduceLT, Int.reduceLE, Int.reduceMul, Int.reduceAdd, Int.reduceSub, Int.reduceToNat, Nat.reduceLT, Nat.reduceLeDiff, Nat.zero_le, or_true, true_or, and_self, not_false_eq_true, forall_const, implies_true, if_true_left, false_or, or_false, p_oD, cut2m, List.all_cons, not_true_eq_false, false_implies, isi_bi, isi_bn, isi_bb, isi_bt, isi_bs, isi_ti, isi_tn, isi_tb, isi_tt, isi_ts, isi_si, isi_sn, isi_sb, isi_st, isi_ss, isi_ii, isi_in, isi_ib, isi_it, isi_is, x_add, x_sub, x_neg, x_lt, x_le, x_gt, x_ge, x_eqI, x_neI, x_is, x_isNot, x_ixL, x_ixT, x_int, x_abs, x_lenL, x_lenT, x_tupL, x_tupT, x_lstL, x_lstT, x_max2, x_min2, at0, at1, at2, at3, atNat, x_inT, x_inL, x_notInT, x_notInL, x_all, x_any, x_sumI, x_nilI, x_nnilI, x_nnilJ, x_eqT, x_neT, x_eqO, x_eqOI, isNone_oD, oD_n, oD_s, decide_eq_true_eq, decide_eq_false_iff_not, true_and, and_true, Nat.sub_self, Nat.reduceSub, Nat.reduceAdd, ite_true, Option.some_inj, eq_self, isNone, Bool.not_true, Int.reduceEq, decide_true, decide_false, exists_eq_left', exists_eq_left, dl_1, dl_2, eq_nn, ne_nn, rgD_hs, Int.toNat_natCast, List.length_map, cut40]
    exact q
def may (f : List (List Int)) (l : List Int) : Bool := f.any fun one => within l one
def T_may_lie : DSp where
  run := fun args xt Q => ∃ (f : List (List Int)) (l : List Int), args = [.val (tF f), .val (tI l)] ∧ f.length ≤ 10000 ∧ l.length ≤ 10000 ∧ Q (.val (.bool (may f l))) xt
  mono := fun k ⟨a, b, e, h, h2, q⟩ => ⟨a, b, e, h, h2, k _ _ q⟩
def r_may_lie : RS := dRet (dCB fAny (dCons (dFz (dLc (dSeqI (dV 0)) (.nm 2) dYes (dCall T_is_within 2 [false, false] (dCons (dV 1) (dCons (dV 2) dNil))) [2])) dNil))
theorem pure_may_lie : PureOk T_may_lie 2 3 r_may_lie := by
  rintro _ xt Q _ ⟨f, l, rfl, hf, hl, q⟩
  unfold r_may_lie
  simp only [↓e_C, ↓e_V, ↓e_Fz, ↓e_Op, ↓e_Un, ↓e_B, ↓e_Chain, ↓e_AndT, ↓e_OrT, ↓e_NotT, ↓e_AndV, ↓e_OrV, ↓e_NotV, ↓e_If, ↓e_Nil, ↓e_Cons, ↓e_Tup, ↓e_Lst, ↓e_CB, ↓e_CBN, ↓e_Isi, ↓e_TupRg1, ↓e_LstRg1, ↓e_TupRg2, ↓e_LstRg2, ↓e_ScrLen, ↓e_ScrAt, ↓e_SeqI, ↓e_Enum, ↓e_Rng1, ↓e_Rng2, ↓e_Seq, ↓e_Next, ↓e_Break, ↓e_Cont, ↓e_Drop, ↓e_Ret, ↓e_RetN, ↓e_Ret0, ↓e_IfS, ↓e_Asg, ↓e_AsgN, ↓e_AsgLc, ↓e_mNil, ↓e_mVal, ↓e_mNew, ↓e_Par, ↓e_For, ↓e_LoopN, ↓e_LoopC, ↓e_Lc, ↓e_Yes, ↓e_Call, ↓e_CallN, ↓e_Append, ↓e_Extend, ↓e_Pop, ↓e_PopAt, ↓e_SetAt, ↓e_Sl, ↓e_NoP, ↓e_P, ↓e_Aug, ↓e_SrtSet, optP_some, vaP_val, boP_val, inP_val, muP_lst, vals_nil, vals_cons, brP_t, brP_f, brP_d, brP_n, scrOf, rg1, rg2, lstAt, lsOf, nt_of, nt_0, nt_1, slotR, slNew, slMu, slOf, setAll, Dl.En.set, Dl.En.wipe, wipeL, noMu_n, noMu_c, isMu_v, isMu_u, isMu_e, isMu_s, tg_nm, Dl.tg_tup, tgs_nil, tgs_cons, fSl, Rv.d, Rv.m, muD, rvDs, obAt, rvOb, obget_s, obget_e, obput_s, obput_e, put_nil, put_one, conv, argOf, argSlot, argExt, obsMu, seqD, env0, argSl, p_mul, p_mod, p_div, p_pow, p_catT, p_catL, p_maxI, p_minI, List.map_cons, List.map_nil, List.replicate_succ, List.replicate_zero, List.length_cons, List.length_nil, List.nil_append, List.cons_append, List.append_nil, List.getElem?_cons_zero, List.getElem?_cons_succ, List.getElem?_nil, List.set_cons_zero, List.set_cons_succ, List.set_nil, Option.bind_some, Option.bind_none, Option.map_some, Option.map_none, Option.some.injEq, Option.isSome_some, List.all_cons, List.all_nil, List.contains_nil, Bool.and_true, Bool.not_false, Bool.true_and, Rv.val.injEq, PyData.int.injEq, PyData.bool.injEq, PyData.tuple.injEq, PyData.list.injEq, and_assoc, Prod.mk.injEq, reduceCtorEq, Mu.lst.injEq, Int.reducePow, Int.reduceNeg, Int.reduceLT, Int.reduceLE, Int.reduceMul, Int.reduceAdd, Int.reduceSub, Int.reduceToNat, Nat.reduceLT, Nat.reduceLeDiff, Nat.zero_le, or_true, true_or, and_self, not_false_eq_true, forall_const, implies_true, if_true_left, false_or, or_false, p_oD, cut2m, List.all_cons, not_true_eq_false, false_implies, isi_bi, isi_bn, isi_bb, isi_bt, isi_bs, isi_ti, isi_tn, isi_tb, isi_tt, isi_ts, isi_si, isi_sn, isi_sb, isi_st, isi_ss, isi_ii, isi_in, isi_ib, isi_it, isi_is, x_add, x_sub, x_neg, x_lt, x_le, x_gt, x_ge, x_eqI, x_neI, x_is, x_isNot, x_ixL, x_ixT, x_int, x_abs, x_lenL, x_lenT, x_tupL, x_tupT, x_lstL, x_lstT, x_max2, x_min2, at0, at1, at2, at3, atNat, x_inT, x_inL, x_notInT, x_notInL, x_all, x_any, x_sumI, x_nilI, x_nnilI, x_nnilJ, x_eqT, x_neT, x_eqO, x_eqOI, isNone_oD, oD_n, oD_s, decide_eq_true_eq, decide_eq_false_iff_not, true_and, and_true, Nat.sub_self, Nat.reduceSub, Nat.reduceAdd, ite_true, Option.some_inj, eq_self, isNone, Bool.not_true, Int.reduceEq, decide_true, decide_false, exists_eq_left', exists_eq_left, dl_1, dl_2, eq_nn, ne_nn, rgD_hs, Int.toNat_natCast, List.length_map, cut40]
  refine lcGo_map (enc := tI) (fun one => .bool (within l one)) f hf (fun x _ => ⟨_, rfl, rfl, fun QE h => ?_⟩) ?_
  · simp only [↓e_C, ↓e_V, ↓e_Fz, ↓e_Op, ↓e_Un, ↓e_B, ↓e_Chain, ↓e_AndT, ↓e_OrT, ↓e_NotT, ↓e_AndV, ↓e_OrV, ↓e_NotV, ↓e_If, ↓e_Nil, ↓e_Cons, ↓e_Tup, ↓e_Lst, ↓e_CB, ↓e_CBN, ↓e_Isi, ↓e_TupRg1, ↓e_LstRg1, ↓e_TupRg2, ↓e_LstRg2, ↓e_ScrLen, ↓e_ScrAt, ↓e_SeqI, ↓e_Enum, ↓e_Rng1, ↓e_Rng2, ↓e_Seq, ↓e_Next, ↓e_Break, ↓e_Cont, ↓e_Drop, ↓e_Ret, ↓e_RetN, ↓e_Ret0, ↓e_IfS, ↓e_Asg, ↓e_AsgN, ↓e_AsgLc, ↓e_mNil, ↓e_mVal, ↓e_mNew, ↓e_Par, ↓e_For, ↓e_LoopN, ↓e_LoopC, ↓e_Lc, ↓e_Yes, ↓e_Call, ↓e_CallN, ↓e_Append, ↓e_Extend, ↓e_Pop, ↓e_PopAt, ↓e_SetAt, ↓e_Sl, ↓e_NoP, ↓e_P, ↓e_Aug, ↓e_SrtSet, optP_some, vaP_val, boP_val, inP_val, muP_lst, vals_nil, vals_cons, brP_t, brP_f, brP_d, brP_n, scrOf, rg1, rg2, lstAt, lsOf, nt_of, nt_0, nt_1, slotR, slNew, slMu, slOf, setAll, Dl.En.set, Dl.En.wipe, wipeL, noMu_n, noMu_c, isMu_v, isMu_u, isMu_e, isMu_s, tg_nm, Dl.tg_tup, tgs_nil, tgs_cons, fSl, Rv.d, Rv.m, muD, rvDs, obAt, rvOb, obget_s, obget_e, obput_s, obput_e, put_nil, put_one, conv, argOf, argSlot, argExt, obsMu, seqD, env0, argSl, p_mul, p_mod, p_div, p_pow, p_catT, p_catL, p_maxI, p_minI, List.map_cons, List.map_nil, List.replicate_succ, List.replicate_zero, List.length_cons, List.length_nil, List.nil_append, List.cons_append, List.append_nil, List.getElem?_cons_zero, List.getElem?_cons_succ, List.getElem?_nil, List.set_cons_zero, List.set_cons_succ, List.set_nil, Option.bind_some, Option.bind_none, Option.map_some, Option.map_none, Option.some.injEq, Option.isSome_some, List.all_cons, List.all_nil, List.contains_nil, Bool.and_true, Bool.not_false, Bool.true_and, Rv.val.injEq, PyData.int.injEq, PyData.bool.injEq, PyData.tuple.injEq, PyData.list.injEq, and_assoc, Prod.mk.injEq, reduceCtorEq, Mu.lst.injEq, Int.reducePow, Int.reduceNeg, Int.reduceLT, Int.reduceLE, Int.reduceMul, Int.reduceAdd, Int.reduceSub, Int.reduceToNat, Nat.reduceLT, Nat.reduceLeDiff, Nat.zero_le, or_true, true_or, and_self, not_false_eq_true, forall_const, implies_true, if_true_left, false_or, or_false, p_oD, cut2m, List.all_cons, not_true_eq_false, false_implies, isi_bi, isi_bn, isi_bb, isi_bt, isi_bs, isi_ti, isi_tn, isi_tb, isi_tt, isi_ts, isi_si, isi_sn, isi_sb, isi_st, isi_ss, isi_ii, isi_in, isi_ib, isi_it, isi_is, x_add, x_sub, x_neg, x_lt, x_le, x_gt, x_ge, x_eqI, x_neI, x_is, x_isNot, x_ixL, x_ixT, x_int, x_abs, x_lenL, x_lenT, x_tupL, x_tupT, x_lstL, x_lstT, x_max2, x_min2, at0, at1, at2, at3, atNat, x_inT, x_inL, x_notInT, x_notInL, x_all, x_any, x_sumI, x_nilI, x_nnilI, x_nnilJ, x_eqT, x_neT, x_eqO, x_eqOI, isNone_oD, oD_n, oD_s, decide_eq_true_eq, decide_eq_false_iff_not, true_and, and_true, Nat.sub_self, Nat.reduceSub, Nat.reduceAdd, ite_true, Option.some_inj, eq_self, isNone, Bool.not_true, Int.reduceEq, decide_true, decide_false, exists_eq_left', exists_eq_left, dl_1, dl_2, eq_nn, ne_nn, rgD_hs, Int.toNat_natCast, List.length_map, cut40]
    exact ⟨_, _, rfl, hl, by simp only [↓e_C, ↓e_V, ↓e_Fz, ↓e_Op, ↓e_Un, ↓e_B, ↓e_Chain, ↓e_AndT, ↓e_OrT, ↓e_NotT, ↓e_AndV, ↓e_OrV, ↓e_NotV, ↓e_If, ↓e_Nil, ↓e_Cons, ↓e_Tup, ↓e_Lst, ↓e_CB, ↓e_CBN, ↓e_Isi, ↓e_TupRg1, ↓e_LstRg1, ↓e_TupRg2, ↓e_LstRg2, ↓e_ScrLen, ↓e_ScrAt, ↓e_SeqI, ↓e_Enum, ↓e_Rng1, ↓e_Rng2, ↓e_Seq, ↓e_Next, ↓e_Break, ↓e_Cont, ↓e_Drop, ↓e_Ret, ↓e_RetN, ↓e_Ret0, ↓e_IfS, ↓e_Asg, ↓e_AsgN, ↓e_AsgLc, ↓e_mNil, ↓e_mVal, ↓e_mNew, ↓e_Par, ↓e_For, ↓e_LoopN, ↓e_LoopC, ↓e_Lc, ↓e_Yes, ↓e_Call, ↓e_CallN, ↓e_Append, ↓e_Extend, ↓e_Pop, ↓e_PopAt, ↓e_SetAt, ↓e_Sl, ↓e_NoP, ↓e_P, ↓e_Aug, ↓e_SrtSet, optP_some, vaP_val, boP_val, inP_val, muP_lst, vals_nil, vals_cons, brP_t, brP_f, brP_d, brP_n, scrOf, rg1, rg2, lstAt, lsOf, nt_of, nt_0, nt_1, slotR, slNew, slMu, slOf, setAll, Dl.En.set, Dl.En.wipe, wipeL, noMu_n, noMu_c, isMu_v, isMu_u, isMu_e, isMu_s, tg_nm, Dl.tg_tup, tgs_nil, tgs_cons, fSl, Rv.d, Rv.m, muD, rvDs, obAt, rvOb, obget_s, obget_e, obput_s, obput_e, put_nil, put_one, conv, argOf, argSlot, argExt, obsMu, seqD, env0, argSl, p_mul, p_mod, p_div, p_pow, p_catT, p_catL, p_maxI, p_minI, List.map_cons, List.map_nil, List.replicate_succ, List.replicate_zero, List.length_cons, List.length_nil, List.nil_append, List.cons_append, List.append_nil, List.getElem?_cons_zero, List.getElem?_cons_succ, List.getElem?_nil, List.set_cons_zero, List.set_cons_succ, List.set_nil, Option.bind_some, Option.bind_none, Option.map_some, Option.map_none, Option.some.injEq, Option.isSome_some, List.all_cons, List.all_nil, List.contains_nil, Bool.and_true, Bool.not_false, Bool.true_and, Rv.val.injEq, PyData.int.injEq, PyData.bool.injEq, PyData.tuple.injEq, PyData.list.injEq, and_assoc, Prod.mk.injEq, reduceCtorEq, Mu.lst.injEq, Int.reducePow, Int.reduceNeg, Int.reduceLT, Int.reduceLE, Int.reduceMul, Int.reduceAdd, Int.reduceSub, Int.reduceToNat, Nat.reduceLT, Nat.reduceLeDiff, Nat.zero_le, or_true, true_or, and_self, not_false_eq_true, forall_const, implies_true, if_true_left, false_or, or_false, p_oD, cut2m, List.all_cons, not_true_eq_false, false_implies, isi_bi, isi_bn, isi_bb, isi_bt, isi_bs, isi_ti, isi_tn, isi_tb, isi_tt, isi_ts, isi_si, isi_sn, isi_sb, isi_st, isi_ss, isi_ii, isi_in, isi_ib, isi_it, isi_is, x_add, x_sub, x_neg, x_lt, x_le, x_gt, x_ge, x_eqI, x_neI, x_is, x_isNot, x_ixL, x_ixT, x_int, x_abs, x_lenL, x_lenT, x_tupL, x_tupT, x_lstL, x_lstT, x_max2, x_min2, at0, at1, at2, at3, atNat, x_inT, x_inL, x_notInT, x_notInL, x_all, x_any, x_sumI, x_nilI, x_nnilI, x_nnilJ, x_eqT, x_neT, x_eqO, x_eqOI, isNone_oD, oD_n, oD_s, decide_eq_true_eq, decide_eq_false_iff_not, true_and, and_true, Nat.sub_self, Nat.reduceSub, Nat.reduceAdd, ite_true, Option.some_inj, eq_self, isNone, Bool.not_true, Int.reduceEq, decide_true, decide_false, exists_eq_left', exists_eq_left, dl_1, dl_2, eq_nn, ne_nn, rgD_hs, Int.toNat_natCast, List.length_map, cut40]; exact h⟩
  · simp only [↓e_C, ↓e_V, ↓e_Fz, ↓e_Op, ↓e_Un, ↓e_B, ↓e_Chain, ↓e_AndT, ↓e_OrT, ↓e_NotT, ↓e_AndV, ↓e_OrV, ↓e_NotV, ↓e_If, ↓e_Nil, ↓e_Cons, ↓e_Tup, ↓e_Lst, ↓e_CB, ↓e_CBN, ↓e_Isi, ↓e_TupRg1, ↓e_LstRg1, ↓e_TupRg2, ↓e_LstRg2, ↓e_ScrLen, ↓e_ScrAt, ↓e_SeqI, ↓e_Enum, ↓e_Rng1, ↓e_Rng2, ↓e_Seq, ↓e_Next, ↓e_Break, ↓e_Cont, ↓e_Drop, ↓e_Ret, ↓e_RetN, ↓e_Ret0, ↓e_IfS, ↓e_Asg, ↓e_AsgN, ↓e_AsgLc, ↓e_mNil, ↓e_mVal, ↓e_mNew, ↓e_Par, ↓e_For, ↓e_LoopN, ↓e_LoopC, ↓e_Lc, ↓e_Yes, ↓e_Call, ↓e_CallN, ↓e_Append, ↓e_Extend, ↓e_Pop, ↓e_PopAt, ↓e_SetAt, ↓e_Sl, ↓e_NoP, ↓e_P, ↓e_Aug, ↓e_SrtSet, optP_some, vaP_val, boP_val, inP_val, muP_lst, vals_nil, vals_cons, brP_t, brP_f, brP_d, brP_n, scrOf, rg1, rg2, lstAt, lsOf, nt_of, nt_0, nt_1, slotR, slNew, slMu, slOf, setAll, Dl.En.set, Dl.En.wipe, wipeL, noMu_n, noMu_c, isMu_v, isMu_u, isMu_e, isMu_s, tg_nm, Dl.tg_tup, tgs_nil, tgs_cons, fSl, Rv.d, Rv.m, muD, rvDs, obAt, rvOb, obget_s, obget_e, obput_s, obput_e, put_nil, put_one, conv, argOf, argSlot, argExt, obsMu, seqD, env0, argSl, p_mul, p_mod, p_div, p_pow, p_catT, p_catL, p_maxI, p_minI, List.map_cons, List.map_nil, List.replicate_succ, List.replicate_zero, List.length_cons, List.length_nil, List.nil_append, List.cons_append, List.append_nil, List.getElem?_cons_zero, List.getElem?_cons_succ, List.getElem?_nil, List.set_cons_zero, List.set_cons_succ, List.set_nil, Option.bind_some, Option.bind_none, Option.map_some, Option.map_none, Option.some.injEq, Option.isSome_some, List.all_cons, List.all_nil, List.contains_nil, Bool.and_true, Bool.not_false, Bool.true_and, Rv.val.injEq, PyData.int.injEq, PyData.bool.injEq, PyData.tuple.injEq, PyData.list.injEq, and_assoc, Prod.mk.injEq, reduceCtorEq, Mu.lst.injEq, Int.reducePow, Int.reduceNeg, Int.reduceLT, Int.reduceLE, Int.reduceMul, Int.reduceAdd, Int.reduceSub, Int.reduceToNat, Nat.reduceLT, Nat.reduceLeDiff, Nat.zero_le, or_true, true_or, and_self, not_false_eq_true, forall_const, implies_true, if_true_left, false_or, or_false, p_oD, cut2m, List.all_cons, not_true_eq_false, false_implies, isi_bi, isi_bn, isi_bb, isi_bt, isi_bs, isi_ti, isi_tn, isi_tb, isi_tt, isi_ts, isi_si, isi_sn, isi_sb, isi_st, isi_ss, isi_ii, isi_in, isi_ib, isi_it, isi_is, x_add, x_sub, x_neg, x_lt, x_le, x_gt, x_ge, x_eqI, x_neI, x_is, x_isNot, x_ixL, x_ixT, x_int, x_abs, x_lenL, x_lenT, x_tupL, x_tupT, x_lstL, x_lstT, x_max2, x_min2, at0, at1, at2, at3, atNat, x_inT, x_inL, x_notInT, x_notInL, x_all, x_any, x_sumI, x_nilI, x_nnilI, x_nnilJ, x_eqT, x_neT, x_eqO, x_eqOI, isNone_oD, oD_n, oD_s, decide_eq_true_eq, decide_eq_false_iff_not, true_and, and_true, Nat.sub_self, Nat.reduceSub, Nat.reduceAdd, ite_true, Option.some_inj, eq_self, isNone, Bool.not_true, Int.reduceEq, decide_true, decide_false, exists_eq_left', exists_eq_left, dl_1, dl_2, eq_nn, ne_nn, rgD_hs, Int.toNat_natCast, List.length_map, cut40]
    exact q
theorem box_take {g r : Int} {m : Int} {Q : Res → List Mu → Prop} (h1 : 0 < m) (h2 : m < 1073741824) (q : ∀ (n g' r' : Int), 0 ≤ n → n < m → Q (.val (.int n)) [.lst [.int g', .int r']]) :
    T__law_take.run [.ext 0, .val (.int m)] [.lst [.int g, .int r]] Q := ⟨m, rfl, ⟨g, r, rfl⟩, h1, h2, fun n xt' a b ⟨g', r', e⟩ => by subst e; exact q n g' r' a b⟩
def T__law_pick : DSp where
  run := fun args xt Q => ∃ (d : D) (ds : List D), args = [.ext 0, .val d] ∧ seqD d = some ds ∧ Bx xt ∧ 0 < ds.length ∧ ds.length ≤ 10000 ∧ ∀ x ∈ ds, ∀ xt', Bx xt' → Q (.val x) xt'
  mono := fun k ⟨d, ds, e, h, b, h1, h2, q⟩ => ⟨d, ds, e, h, b, h1, h2, fun x hx xt' hb => k _ _ (q x hx xt' hb)⟩
def r__law_pick : RS := dRet (dOp fIx (dV 1) (dCall T__law_take 2 [true, false] (dCons (dV 0) (dCons (dCB fLen (dCons (dV 1) dNil)) dNil))))
theorem pure__law_pick : PureOk T__law_pick 2 2 r__law_pick := by
  rintro _ xt Q _ ⟨d, ds, rfl, hd, ⟨g, r, rfl⟩, h1, h2, q⟩
  have fin : ∀ (k g' r' : Int), 0 ≤ k → k < ds.length → optP (atI ds k) fun x => Q (.val x) [.lst [.int g', .int r']] := fun k g' r' h0 hk => by
    obtain ⟨n, rfl⟩ := Int.eq_ofNat_of_zero_le h0
    have hn : n < ds.length := by omega
    exact optP_i (a := ds[n]) (by rw [atNat, List.getElem?_eq_getElem hn]) (q _ (List.getElem_mem hn) _ ⟨_, _, rfl⟩)
  cases d <;> cases hd
  · unfold r__law_pick
    simp only [↓e_C, ↓e_V, ↓e_Fz, ↓e_Op, ↓e_Un, ↓e_B, ↓e_Chain, ↓e_AndT, ↓e_OrT, ↓e_NotT, ↓e_AndV, ↓e_OrV, ↓e_NotV, ↓e_If, ↓e_Nil, ↓e_Cons, ↓e_Tup, ↓e_Lst, ↓e_CB, ↓e_CBN, ↓e_Isi, ↓e_TupRg1, ↓e_LstRg1, ↓e_TupRg2, ↓e_LstRg2, ↓e_ScrLen, ↓e_ScrAt, ↓e_SeqI, ↓e_Enum, ↓e_Rng1, ↓e_Rng2, ↓e_Seq, ↓e_Next, ↓e_Break, ↓e_Cont, ↓e_Drop, ↓e_Ret, ↓e_RetN, ↓e_Ret0, ↓e_IfS, ↓e_Asg, ↓e_AsgN, ↓e_AsgLc, ↓e_mNil, ↓e_mVal, ↓e_mNew, ↓e_Par, ↓e_For, ↓e_LoopN, ↓e_LoopC, ↓e_Lc, ↓e_Yes, ↓e_Call, ↓e_CallN, ↓e_Append, ↓e_Extend, ↓e_Pop, ↓e_PopAt, ↓e_SetAt, ↓e_Sl, ↓e_NoP, ↓e_P, ↓e_Aug, ↓e_SrtSet, optP_some, vaP_val, boP_val, inP_val, muP_lst, vals_nil, vals_cons, brP_t, brP_f, brP_d, brP_n, scrOf, rg1, rg2, lstAt, lsOf, nt_of, nt_0, nt_1, slotR, slNew, slMu, slOf, setAll, Dl.En.set, Dl.En.wipe, wipeL, noMu_n, noMu_c, isMu_v, isMu_u, isMu_e, isMu_s, tg_nm, Dl.tg_tup, tgs_nil, tgs_cons, fSl, Rv.d, Rv.m, muD, rvDs, obAt, rvOb, obget_s, obget_e, obput_s, obput_e, put_nil, put_one, conv, argOf, argSlot, argExt, obsMu, seqD, env0, argSl, p_mul, p_mod, p_div, p_pow, p_catT, p_catL, p_maxI, p_minI, List.map_cons, List.map_nil, List.replicate_succ, List.replicate_zero, List.length_cons, List.length_nil, List.nil_append, List.cons_append, List.append_nil, List.getElem?_cons_zero, List.getElem?_cons_succ, List.getElem?_nil, List.set_cons_zero, List.set_cons_succ, List.set_nil, Option.bind_some, Option.bind_none, Option.map_some, Option.map_none, Option.some.injEq, Option.isSome_some, List.all_cons, List.all_nil, List.contains_nil, Bool.and_true, Bool.not_false, Bool.true_and, Rv.val.injEq, PyData.int.injEq, PyData.bool.injEq, PyData.tuple.injEq, PyData.list.injEq, and_assoc, Prod.mk.injEq, reduceCtorEq, Mu.lst.injEq, Int.reducePow, Int.reduceNeg, Int.reduceLT, Int.reduceLE, Int.reduceMul, Int.reduceAdd, Int.reduceSub, Int.reduceToNat, Nat.reduceLT, Nat.reduceLeDiff, Nat.zero_le, or_true, true_or, and_self, not_false_eq_true, forall_const, implies_true, if_true_left, false_or, or_false, p_oD, cut2m, List.all_cons, not_true_eq_false, false_implies, isi_bi, isi_bn, isi_bb, isi_bt, isi_bs, isi_ti, isi_tn, isi_tb, isi_tt, isi_ts, isi_si, isi_sn, isi_sb, isi_st, isi_ss, isi_ii, isi_in, isi_ib, isi_it, isi_is, x_add, x_sub, x_neg, x_lt, x_le, x_gt, x_ge, x_eqI, x_neI, x_is, x_isNot, x_ixL, x_ixT, x_int, x_abs, x_lenL, x_lenT, x_tupL, x_tupT, x_lstL, x_lstT, x_max2, x_min2, at0, at1, at2, at3, atNat, x_inT, x_inL, x_notInT, x_notInL, x_all, x_any, x_sumI, x_nilI, x_nnilI, x_nnilJ, x_eqT, x_neT, x_eqO, x_eqOI, isNone_oD, oD_n, oD_s, decide_eq_true_eq, decide_eq_false_iff_not, true_and, and_true, Nat.sub_self, Nat.reduceSub, Nat.reduceAdd, ite_true, Option.some_inj, eq_self, isNone, Bool.not_true, Int.reduceEq, decide_true, decide_false, exists_eq_left', exists_eq_left, dl_1, dl_2, eq_nn, ne_nn, rgD_hs, Int.toNat_natCast, List.length_map, cut40]
    refine box_take (by omega) (by omega) fun n g' r' h0 hn => ?_
    simp only [↓e_C, ↓e_V, ↓e_Fz, ↓e_Op, ↓e_Un, ↓e_B, ↓e_Chain, ↓e_AndT, ↓e_OrT, ↓e_NotT, ↓e_AndV, ↓e_OrV, ↓e_NotV, ↓e_If, ↓e_Nil, ↓e_Cons, ↓e_Tup, ↓e_Lst, ↓e_CB, ↓e_CBN, ↓e_Isi, ↓e_TupRg1, ↓e_LstRg1, ↓e_TupRg2, ↓e_LstRg2, ↓e_ScrLen, ↓e_ScrAt, ↓e_SeqI, ↓e_Enum, ↓e_Rng1, ↓e_Rng2, ↓e_Seq, ↓e_Next, ↓e_Break, ↓e_Cont, ↓e_Drop, ↓e_Ret, ↓e_RetN, ↓e_Ret0, ↓e_IfS, ↓e_Asg, ↓e_AsgN, ↓e_AsgLc, ↓e_mNil, ↓e_mVal, ↓e_mNew, ↓e_Par, ↓e_For, ↓e_LoopN, ↓e_LoopC, ↓e_Lc, ↓e_Yes, ↓e_Call, ↓e_CallN, ↓e_Append, ↓e_Extend, ↓e_Pop, ↓e_PopAt, ↓e_SetAt, ↓e_Sl, ↓e_NoP, ↓e_P, ↓e_Aug, ↓e_SrtSet, optP_some, vaP_val, boP_val, inP_val, muP_lst, vals_nil, vals_cons, brP_t, brP_f, brP_d, brP_n, scrOf, rg1, rg2, lstAt, lsOf, nt_of, nt_0, nt_1, slotR, slNew, slMu, slOf, setAll, Dl.En.set, Dl.En.wipe, wipeL, noMu_n, noMu_c, isMu_v, isMu_u, isMu_e, isMu_s, tg_nm, Dl.tg_tup, tgs_nil, tgs_cons, fSl, Rv.d, Rv.m, muD, rvDs, obAt, rvOb, obget_s, obget_e, obput_s, obput_e, put_nil, put_one, conv, argOf, argSlot, argExt, obsMu, seqD, env0, argSl, p_mul, p_mod, p_div, p_pow, p_catT, p_catL, p_maxI, p_minI, List.map_cons, List.map_nil, List.replicate_succ, List.replicate_zero, List.length_cons, List.length_nil, List.nil_append, List.cons_append, List.append_nil, List.getElem?_cons_zero, List.getElem?_cons_succ, List.getElem?_nil, List.set_cons_zero, List.set_cons_succ, List.set_nil, Option.bind_some, Option.bind_none, Option.map_some, Option.map_none, Option.some.injEq, Option.isSome_some, List.all_cons, List.all_nil, List.contains_nil, Bool.and_true, Bool.not_false, Bool.true_and, Rv.val.injEq, PyData.int.injEq, PyData.bool.injEq, PyData.tuple.injEq, PyData.list.injEq, and_assoc, Prod.mk.injEq, reduceCtorEq, Mu.lst.injEq, Int.reducePow, Int.reduceNeg, Int.reduceLT, Int.reduceLE, Int.reduceMul, Int.reduceAdd, Int.reduceSub, Int.reduceToNat, Nat.reduceLT, Nat.reduceLeDiff, Nat.zero_le, or_true, true_or, and_self, not_false_eq_true, forall_const, implies_true, if_true_left, false_or, or_false, p_oD, cut2m, List.all_cons, not_true_eq_false, false_implies, isi_bi, isi_bn, isi_bb, isi_bt, isi_bs, isi_ti, isi_tn, isi_tb, isi_tt, isi_ts, isi_si, isi_sn, isi_sb, isi_st, isi_ss, isi_ii, isi_in, isi_ib, isi_it, isi_is, x_add, x_sub, x_neg, x_lt, x_le, x_gt, x_ge, x_eqI, x_neI, x_is, x_isNot, x_ixL, x_ixT, x_int, x_abs, x_lenL, x_lenT, x_tupL, x_tupT, x_lstL, x_lstT, x_max2, x_min2, at0, at1, at2, at3, atNat, x_inT, x_inL, x_notInT, x_notInL, x_all, x_any, x_sumI, x_nilI, x_nnilI, x_nnilJ, x_eqT, x_neT, x_eqO, x_eqOI, isNone_oD, oD_n, oD_s, decide_eq_true_eq, decide_eq_false_iff_not, true_and, and_true, Nat.sub_self, Nat.reduceSub, Nat.reduceAdd, ite_true, Option.some_inj, eq_self, isNone, Bool.not_true, Int.reduceEq, decide_true, decide_false, exists_eq_left', exists_eq_left, dl_1, dl_2, eq_nn, ne_nn, rgD_hs, Int.toNat_natCast, List.length_map, cut40]
    exact fin n g' r' h0 hn
  · unfold r__law_pick
    simp only [↓e_C, ↓e_V, ↓e_Fz, ↓e_Op, ↓e_Un, ↓e_B, ↓e_Chain, ↓e_AndT, ↓e_OrT, ↓e_NotT, ↓e_AndV, ↓e_OrV, ↓e_NotV, ↓e_If, ↓e_Nil, ↓e_Cons, ↓e_Tup, ↓e_Lst, ↓e_CB, ↓e_CBN, ↓e_Isi, ↓e_TupRg1, ↓e_LstRg1, ↓e_TupRg2, ↓e_LstRg2, ↓e_ScrLen, ↓e_ScrAt, ↓e_SeqI, ↓e_Enum, ↓e_Rng1, ↓e_Rng2, ↓e_Seq, ↓e_Next, ↓e_Break, ↓e_Cont, ↓e_Drop, ↓e_Ret, ↓e_RetN, ↓e_Ret0, ↓e_IfS, ↓e_Asg, ↓e_AsgN, ↓e_AsgLc, ↓e_mNil, ↓e_mVal, ↓e_mNew, ↓e_Par, ↓e_For, ↓e_LoopN, ↓e_LoopC, ↓e_Lc, ↓e_Yes, ↓e_Call, ↓e_CallN, ↓e_Append, ↓e_Extend, ↓e_Pop, ↓e_PopAt, ↓e_SetAt, ↓e_Sl, ↓e_NoP, ↓e_P, ↓e_Aug, ↓e_SrtSet, optP_some, vaP_val, boP_val, inP_val, muP_lst, vals_nil, vals_cons, brP_t, brP_f, brP_d, brP_n, scrOf, rg1, rg2, lstAt, lsOf, nt_of, nt_0, nt_1, slotR, slNew, slMu, slOf, setAll, Dl.En.set, Dl.En.wipe, wipeL, noMu_n, noMu_c, isMu_v, isMu_u, isMu_e, isMu_s, tg_nm, Dl.tg_tup, tgs_nil, tgs_cons, fSl, Rv.d, Rv.m, muD, rvDs, obAt, rvOb, obget_s, obget_e, obput_s, obput_e, put_nil, put_one, conv, argOf, argSlot, argExt, obsMu, seqD, env0, argSl, p_mul, p_mod, p_div, p_pow, p_catT, p_catL, p_maxI, p_minI, List.map_cons, List.map_nil, List.replicate_succ, List.replicate_zero, List.length_cons, List.length_nil, List.nil_append, List.cons_append, List.append_nil, List.getElem?_cons_zero, List.getElem?_cons_succ, List.getElem?_nil, List.set_cons_zero, List.set_cons_succ, List.set_nil, Option.bind_some, Option.bind_none, Option.map_some, Option.map_none, Option.some.injEq, Option.isSome_some, List.all_cons, List.all_nil, List.contains_nil, Bool.and_true, Bool.not_false, Bool.true_and, Rv.val.injEq, PyData.int.injEq, PyData.bool.injEq, PyData.tuple.injEq, PyData.list.injEq, and_assoc, Prod.mk.injEq, reduceCtorEq, Mu.lst.injEq, Int.reducePow, Int.reduceNeg, Int.reduceLT, Int.reduceLE, Int.reduceMul, Int.reduceAdd, Int.reduceSub, Int.reduceToNat, Nat.reduceLT, Nat.reduceLeDiff, Nat.zero_le, or_true, true_or, and_self, not_false_eq_true, forall_const, implies_true, if_true_left, false_or, or_false, p_oD, cut2m, List.all_cons, not_true_eq_false, false_implies, isi_bi, isi_bn, isi_bb, isi_bt, isi_bs, isi_ti, isi_tn, isi_tb, isi_tt, isi_ts, isi_si, isi_sn, isi_sb, isi_st, isi_ss, isi_ii, isi_in, isi_ib, isi_it, isi_is, x_add, x_sub, x_neg, x_lt, x_le, x_gt, x_ge, x_eqI, x_neI, x_is, x_isNot, x_ixL, x_ixT, x_int, x_abs, x_lenL, x_lenT, x_tupL, x_tupT, x_lstL, x_lstT, x_max2, x_min2, at0, at1, at2, at3, atNat, x_inT, x_inL, x_notInT, x_notInL, x_all, x_any, x_sumI, x_nilI, x_nnilI, x_nnilJ, x_eqT, x_neT, x_eqO, x_eqOI, isNone_oD, oD_n, oD_s, decide_eq_true_eq, decide_eq_false_iff_not, true_and, and_true, Nat.sub_self, Nat.reduceSub, Nat.reduceAdd, ite_true, Option.some_inj, eq_self, isNone, Bool.not_true, Int.reduceEq, decide_true, decide_false, exists_eq_left', exists_eq_left, dl_1, dl_2, eq_nn, ne_nn, rgD_hs, Int.toNat_natCast, List.length_map, cut40]
    refine box_take (by omega) (by omega) fun n g' r' h0 hn => ?_
    simp only [↓e_C, ↓e_V, ↓e_Fz, ↓e_Op, ↓e_Un, ↓e_B, ↓e_Chain, ↓e_AndT, ↓e_OrT, ↓e_NotT, ↓e_AndV, ↓e_OrV, ↓e_NotV, ↓e_If, ↓e_Nil, ↓e_Cons, ↓e_Tup, ↓e_Lst, ↓e_CB, ↓e_CBN, ↓e_Isi, ↓e_TupRg1, ↓e_LstRg1, ↓e_TupRg2, ↓e_LstRg2, ↓e_ScrLen, ↓e_ScrAt, ↓e_SeqI, ↓e_Enum, ↓e_Rng1, ↓e_Rng2, ↓e_Seq, ↓e_Next, ↓e_Break, ↓e_Cont, ↓e_Drop, ↓e_Ret, ↓e_RetN, ↓e_Ret0, ↓e_IfS, ↓e_Asg, ↓e_AsgN, ↓e_AsgLc, ↓e_mNil, ↓e_mVal, ↓e_mNew, ↓e_Par, ↓e_For, ↓e_LoopN, ↓e_LoopC, ↓e_Lc, ↓e_Yes, ↓e_Call, ↓e_CallN, ↓e_Append, ↓e_Extend, ↓e_Pop, ↓e_PopAt, ↓e_SetAt, ↓e_Sl, ↓e_NoP, ↓e_P, ↓e_Aug, ↓e_SrtSet, optP_some, vaP_val, boP_val, inP_val, muP_lst, vals_nil, vals_cons, brP_t, brP_f, brP_d, brP_n, scrOf, rg1, rg2, lstAt, lsOf, nt_of, nt_0, nt_1, slotR, slNew, slMu, slOf, setAll, Dl.En.set, Dl.En.wipe, wipeL, noMu_n, noMu_c, isMu_v, isMu_u, isMu_e, isMu_s, tg_nm, Dl.tg_tup, tgs_nil, tgs_cons, fSl, Rv.d, Rv.m, muD, rvDs, obAt, rvOb, obget_s, obget_e, obput_s, obput_e, put_nil, put_one, conv, argOf, argSlot, argExt, obsMu, seqD, env0, argSl, p_mul, p_mod, p_div, p_pow, p_catT, p_catL, p_maxI, p_minI, List.map_cons, List.map_nil, List.replicate_succ, List.replicate_zero, List.length_cons, List.length_nil, List.nil_append, List.cons_append, List.append_nil, List.getElem?_cons_zero, List.getElem?_cons_succ, List.getElem?_nil, List.set_cons_zero, List.set_cons_succ, List.set_nil, Option.bind_some, Option.bind_none, Option.map_some, Option.map_none, Option.some.injEq, Option.isSome_some, List.all_cons, List.all_nil, List.contains_nil, Bool.and_true, Bool.not_false, Bool.true_and, Rv.val.injEq, PyData.int.injEq, PyData.bool.injEq, PyData.tuple.injEq, PyData.list.injEq, and_assoc, Prod.mk.injEq, reduceCtorEq, Mu.lst.injEq, Int.reducePow, Int.reduceNeg, Int.reduceLT, Int.reduceLE, Int.reduceMul, Int.reduceAdd, Int.reduceSub, Int.reduceToNat, Nat.reduceLT, Nat.reduceLeDiff, Nat.zero_le, or_true, true_or, and_self, not_false_eq_true, forall_const, implies_true, if_true_left, false_or, or_false, p_oD, cut2m, List.all_cons, not_true_eq_false, false_implies, isi_bi, isi_bn, isi_bb, isi_bt, isi_bs, isi_ti, isi_tn, isi_tb, isi_tt, isi_ts, isi_si, isi_sn, isi_sb, isi_st, isi_ss, isi_ii, isi_in, isi_ib, isi_it, isi_is, x_add, x_sub, x_neg, x_lt, x_le, x_gt, x_ge, x_eqI, x_neI, x_is, x_isNot, x_ixL, x_ixT, x_int, x_abs, x_lenL, x_lenT, x_tupL, x_tupT, x_lstL, x_lstT, x_max2, x_min2, at0, at1, at2, at3, atNat, x_inT, x_inL, x_notInT, x_notInL, x_all, x_any, x_sumI, x_nilI, x_nnilI, x_nnilJ, x_eqT, x_neT, x_eqO, x_eqOI, isNone_oD, oD_n, oD_s, decide_eq_true_eq, decide_eq_false_iff_not, true_and, and_true, Nat.sub_self, Nat.reduceSub, Nat.reduceAdd, ite_true, Option.some_inj, eq_self, isNone, Bool.not_true, Int.reduceEq, decide_true, decide_false, exists_eq_left', exists_eq_left, dl_1, dl_2, eq_nn, ne_nn, rgD_hs, Int.toNat_natCast, List.length_map, cut40]
    exact fin n g' r' h0 hn
theorem box_pick {g r : Int} {d : D} {ds : List D} {Q : Res → List Mu → Prop} (e : seqD d = some ds) (h1 : 0 < ds.length) (h2 : ds.length ≤ 10000) (q : ∀ x ∈ ds, ∀ g' r' : Int, Q (.val x) [.lst [.int g', .int r']]) :
    T__law_pick.run [.ext 0, .val d] [.lst [.int g, .int r]] Q := ⟨d, ds, rfl, e, ⟨g, r, rfl⟩, h1, h2, fun x hx xt' ⟨g', r', e⟩ => by subst e; exact q x hx g' r'⟩
def T__law_within : DSp where
  run := fun args xt Q => ∃ a b : List Int, args = [.val (tI a), .val (tI b)] ∧ a.length ≤ 10000 ∧ Q (.val (.bool (within a b))) xt
  mono := fun k ⟨a, b, e, h, q⟩ => ⟨a, b, e, h, k _ _ q⟩
def r__law_within : RS := dRet (dOp fEq (dFz (dLc (dSeqI (dV 0)) (.nm 2) (dB (dOp (fIn true) (dV 2) (dV 1))) (dC (.int 1)) [2])) (dFz (dLst dNil)))
theorem fil_empty {α : Type} (p : α → Bool) (l : List α) : (l.filter p).isEmpty = l.all fun x => !p x := by
  induction l with
  | nil => rfl
  | cons x l ih =>
    rw [List.filter_cons, List.all_cons]
    cases h : p x
    · simpa using ih
    · simp
theorem pure__law_within : PureOk T__law_within 2 3 r__law_within := by
  rintro _ xt Q _ ⟨a, b, rfl, hl, q⟩
  unfold r__law_within
  simp only [↓e_C, ↓e_V, ↓e_Fz, ↓e_Op, ↓e_Un, ↓e_B, ↓e_Chain, ↓e_AndT, ↓e_OrT, ↓e_NotT, ↓e_AndV, ↓e_OrV, ↓e_NotV, ↓e_If, ↓e_Nil, ↓e_Cons, ↓e_Tup, ↓e_Lst, ↓e_CB, ↓e_CBN, ↓e_Isi, ↓e_TupRg1, ↓e_LstRg1, ↓e_TupRg2, ↓e_LstRg2, ↓e_ScrLen, ↓e_ScrAt, ↓e_SeqI, ↓e_Enum, ↓e_Rng1, ↓e_Rng2, ↓e_Seq, ↓e_Next, ↓e_Break, ↓e_Cont, ↓e_Drop, ↓e_Ret, ↓e_RetN, ↓e_Ret0, ↓e_IfS, ↓e_Asg, ↓e_AsgN, ↓e_AsgLc, ↓e_mNil, ↓e_mVal, ↓e_mNew, ↓e_Par, ↓e_For, ↓e_LoopN, ↓e_LoopC, ↓e_Lc, ↓e_Yes, ↓e_Call, ↓e_CallN, ↓e_Append, ↓e_Extend, ↓e_Pop, ↓e_PopAt, ↓e_SetAt, ↓e_Sl, ↓e_NoP, ↓e_P, ↓e_Aug, ↓e_SrtSet, optP_some, vaP_val, boP_val, inP_val, muP_lst, vals_nil, vals_cons, brP_t, brP_f, brP_d, brP_n, scrOf, rg1, rg2, lstAt, lsOf, nt_of, nt_0, nt_1, slotR, slNew, slMu, slOf, setAll, Dl.En.set, Dl.En.wipe, wipeL, noMu_n, noMu_c, isMu_v, isMu_u, isMu_e, isMu_s, tg_nm, Dl.tg_tup, tgs_nil, tgs_cons, fSl, Rv.d, Rv.m, muD, rvDs, obAt, rvOb, obget_s, obget_e, obput_s, obput_e, put_nil, put_one, conv, argOf, argSlot, argExt, obsMu, seqD, env0, argSl, p_mul, p_mod, p_div, p_pow, p_catT, p_catL, p_maxI, p_minI, List.map_cons, List.map_nil, List.replicate_succ, List.replicate_zero, List.length_cons, List.length_nil, List.nil_append, List.cons_append, List.append_nil, List.getElem?_cons_zero, List.getElem?_cons_succ, List.getElem?_nil, List.set_cons_zero, List.set_cons_succ, List.set_nil, Option.bind_some, Option.bind_none, Option.map_some, Option.map_none, Option.some.injEq, Option.isSome_some, List.all_cons, List.all_nil, List.contains_nil, Bool.and_true, Bool.not_false, Bool.true_and, Rv.val.injEq, PyData.int.injEq, PyData.bool.injEq, PyData.tuple.injEq, PyData.list.injEq, and_assoc, Prod.mk.injEq, reduceCtorEq, Mu.lst.injEq, Int.reducePow, Int.reduceNeg, Int.reduceLT, Int.reduceLE, Int.reduceMul, Int.reduceAdd, Int.reduceSub, Int.reduceToNat, Nat.reduceLT, Nat.reduceLeDiff, Nat.zero_le, or_true, true_or, and_self, not_false_eq_true, forall_const, implies_true, if_true_left, false_or, or_false, p_oD, cut2m, List.all_cons, not_true_eq_false, false_implies, isi_bi, isi_bn, isi_bb, isi_bt, isi_bs, isi_ti, isi_tn, isi_tb, isi_tt, isi_ts, isi_si, isi_sn, isi_sb, isi_st, isi_ss, isi_ii, isi_in, isi_ib, isi_it, isi_is, x_add, x_sub, x_neg, x_lt, x_le, x_gt, x_ge, x_eqI, x_neI, x_is, x_isNot, x_ixL, x_ixT, x_int, x_abs, x_lenL, x_lenT, x_tupL, x_tupT, x_lstL, x_lstT, x_max2, x_min2, at0, at1, at2, at3, atNat, x_inT, x_inL, x_notInT, x_notInL, x_all, x_any, x_sumI, x_nilI, x_nnilI, x_nnilJ, x_eqT, x_neT, x_eqO, x_eqOI, isNone_oD, oD_n, oD_s, decide_eq_true_eq, decide_eq_false_iff_not, true_and, and_true, Nat.sub_self, Nat.reduceSub, Nat.reduceAdd, ite_true, Option.some_inj, eq_self, isNone, Bool.not_true, Int.reduceEq, decide_true, decide_false, exists_eq_left', exists_eq_left, dl_1, dl_2, eq_nn, ne_nn, rgD_hs, Int.toNat_natCast, List.length_map, cut40]
  refine lcGo_fil (enc := PyData.int) (fun x => !b.contains x) (fun _ => .int 1) a hl (fun x _ => ⟨_, rfl, rfl, fun QT h => ?_, fun _ QE h => ?_⟩) ?_
  · simp only [↓e_C, ↓e_V, ↓e_Fz, ↓e_Op, ↓e_Un, ↓e_B, ↓e_Chain, ↓e_AndT, ↓e_OrT, ↓e_NotT, ↓e_AndV, ↓e_OrV, ↓e_NotV, ↓e_If, ↓e_Nil, ↓e_Cons, ↓e_Tup, ↓e_Lst, ↓e_CB, ↓e_CBN, ↓e_Isi, ↓e_TupRg1, ↓e_LstRg1, ↓e_TupRg2, ↓e_LstRg2, ↓e_ScrLen, ↓e_ScrAt, ↓e_SeqI, ↓e_Enum, ↓e_Rng1, ↓e_Rng2, ↓e_Seq, ↓e_Next, ↓e_Break, ↓e_Cont, ↓e_Drop, ↓e_Ret, ↓e_RetN, ↓e_Ret0, ↓e_IfS, ↓e_Asg, ↓e_AsgN, ↓e_AsgLc, ↓e_mNil, ↓e_mVal, ↓e_mNew, ↓e_Par, ↓e_For, ↓e_LoopN, ↓e_LoopC, ↓e_Lc, ↓e_Yes, ↓e_Call, ↓e_CallN, ↓e_Append, ↓e_Extend, ↓e_Pop, ↓e_PopAt, ↓e_SetAt, ↓e_Sl, ↓e_NoP, ↓e_P, ↓e_Aug, ↓e_SrtSet, optP_some, vaP_val, boP_val, inP_val, muP_lst, vals_nil, vals_cons, brP_t, brP_f, brP_d, brP_n, scrOf, rg1, rg2, lstAt, lsOf, nt_of, nt_0, nt_1, slotR, slNew, slMu, slOf, setAll, Dl.En.set, Dl.En.wipe, wipeL, noMu_n, noMu_c, isMu_v, isMu_u, isMu_e, isMu_s, tg_nm, Dl.tg_tup, tgs_nil, tgs_cons, fSl, Rv.d, Rv.m, muD, rvDs, obAt, rvOb, obget_s, obget_e, obput_s, obput_e, put_nil, put_one, conv, argOf, argSlot, argExt, obsMu, seqD, env0, argSl, p_mul, p_mod, p_div, p_pow, p_catT, p_catL, p_maxI, p_minI, List.map_cons, List.map_nil, List.replicate_succ, List.replicate_zero, List.length_cons, List.length_nil, List.nil_append, List.cons_append, List.append_nil, List.getElem?_cons_zero, List.getElem?_cons_succ, List.getElem?_nil, List.set_cons_zero, List.set_cons_succ, List.set_nil, Option.bind_some, Option.bind_none, Option.map_some, Option.map_none, Option.some.injEq, Option.isSome_some, List.all_cons, List.all_nil, List.contains_nil, Bool.and_true, Bool.not_false, Bool.true_and, Rv.val.injEq, PyData.int.injEq, PyData.bool.injEq, PyData.tuple.injEq, PyData.list.injEq, and_assoc, Prod.mk.injEq, reduceCtorEq, Mu.lst.injEq, Int.reducePow, Int.reduceNeg, Int.reduceLT, Int.reduceLE, Int.reduceMul, Int.reduceAdd, Int.reduceSub, Int.reduceToNat, Nat.reduceLT, Nat.reduceLeDiff, Nat.zero_le, or_true, true_or, and_self, not_false_eq_true, forall_const, implies_true, if_true_left, false_or, or_false, p_oD, cut2m, List.all_cons, not_true_eq_false, false_implies, isi_bi, isi_bn, isi_bb, isi_bt, isi_bs, isi_ti, isi_tn, isi_tb, isi_tt, isi_ts, isi_si, isi_sn, isi_sb, isi_st, isi_ss, isi_ii, isi_in, isi_ib, isi_it, isi_is, x_add, x_sub, x_neg, x_lt, x_le, x_gt, x_ge, x_eqI, x_neI, x_is, x_isNot, x_ixL, x_ixT, x_int, x_abs, x_lenL, x_lenT, x_tupL, x_tupT, x_lstL, x_lstT, x_max2, x_min2, at0, at1, at2, at3, atNat, x_inT, x_inL, x_notInT, x_notInL, x_all, x_any, x_sumI, x_nilI, x_nnilI, x_nnilJ, x_eqT, x_neT, x_eqO, x_eqOI, isNone_oD, oD_n, oD_s, decide_eq_true_eq, decide_eq_false_iff_not, true_and, and_true, Nat.sub_self, Nat.reduceSub, Nat.reduceAdd, ite_true, Option.some_inj, eq_self, isNone, Bool.not_true, Int.reduceEq, decide_true, decide_false, exists_eq_left', exists_eq_left, dl_1, dl_2, eq_nn, ne_nn, rgD_hs, Int.toNat_natCast, List.length_map, cut40]
    exact h
  · simp only [↓e_C, ↓e_V, ↓e_Fz, ↓e_Op, ↓e_Un, ↓e_B, ↓e_Chain, ↓e_AndT, ↓e_OrT, ↓e_NotT, ↓e_AndV, ↓e_OrV, ↓e_NotV, ↓e_If, ↓e_Nil, ↓e_Cons, ↓e_Tup, ↓e_Lst, ↓e_CB, ↓e_CBN, ↓e_Isi, ↓e_TupRg1, ↓e_LstRg1, ↓e_TupRg2, ↓e_LstRg2, ↓e_ScrLen, ↓e_ScrAt, ↓e_SeqI, ↓e_Enum, ↓e_Rng1, ↓e_Rng2, ↓e_Seq, ↓e_Next, ↓e_Break, ↓e_Cont, ↓e_Drop, ↓e_Ret, ↓e_RetN, ↓e_Ret0, ↓e_IfS, ↓e_Asg, ↓e_AsgN, ↓e_AsgLc, ↓e_mNil, ↓e_mVal, ↓e_mNew, ↓e_Par, ↓e_For, ↓e_LoopN, ↓e_LoopC, ↓e_Lc, ↓e_Yes, ↓e_Call, ↓e_CallN, ↓e_Append, ↓e_Extend, ↓e_Pop, ↓e_PopAt, ↓e_SetAt, ↓e_Sl, ↓e_NoP, ↓e_P, ↓e_Aug, ↓e_SrtSet, optP_some, vaP_val, boP_val, inP_val, muP_lst, vals_nil, vals_cons, brP_t, brP_f, brP_d, brP_n, scrOf, rg1, rg2, lstAt, lsOf, nt_of, nt_0, nt_1, slotR, slNew, slMu, slOf, setAll, Dl.En.set, Dl.En.wipe, wipeL, noMu_n, noMu_c, isMu_v, isMu_u, isMu_e, isMu_s, tg_nm, Dl.tg_tup, tgs_nil, tgs_cons, fSl, Rv.d, Rv.m, muD, rvDs, obAt, rvOb, obget_s, obget_e, obput_s, obput_e, put_nil, put_one, conv, argOf, argSlot, argExt, obsMu, seqD, env0, argSl, p_mul, p_mod, p_div, p_pow, p_catT, p_catL, p_maxI, p_minI, List.map_cons, List.map_nil, List.replicate_succ, List.replicate_zero, List.length_cons, List.length_nil, List.nil_append, List.cons_append, List.append_nil, List.getElem?_cons_zero, List.getElem?_cons_succ, List.getElem?_nil, List.set_cons_zero, List.set_cons_succ, List.set_nil, Option.bind_some, Option.bind_none, Option.map_some, Option.map_none, Option.some.injEq, Option.isSome_some, List.all_cons, List.all_nil, List.contains_nil, Bool.and_true, Bool.not_false, Bool.true_and, Rv.val.injEq, PyData.int.injEq, PyData.bool.injEq, PyData.tuple.injEq, PyData.list.injEq, and_assoc, Prod.mk.injEq, reduceCtorEq, Mu.lst.injEq, Int.reducePow, Int.reduceNeg, Int.reduceLT, Int.reduceLE, Int.reduceMul, Int.reduceAdd, Int.reduceSub, Int.reduceToNat, Nat.reduceLT, Nat.reduceLeDiff, Nat.zero_le, or_true, true_or, and_self, not_false_eq_true, forall_const, implies_true, if_true_left, false_or, or_false, p_oD, cut2m, List.all_cons, not_true_eq_false, false_implies, isi_bi, isi_bn, isi_bb, isi_bt, isi_bs, isi_ti, isi_tn, isi_tb, isi_tt, isi_ts, isi_si, isi_sn, isi_sb, isi_st, isi_ss, isi_ii, isi_in, isi_ib, isi_it, isi_is, x_add, x_sub, x_neg, x_lt, x_le, x_gt, x_ge, x_eqI, x_neI, x_is, x_isNot, x_ixL, x_ixT, x_int, x_abs, x_lenL, x_lenT, x_tupL, x_tupT, x_lstL, x_lstT, x_max2, x_min2, at0, at1, at2, at3, atNat, x_inT, x_inL, x_notInT, x_notInL, x_all, x_any, x_sumI, x_nilI, x_nnilI, x_nnilJ, x_eqT, x_neT, x_eqO, x_eqOI, isNone_oD, oD_n, oD_s, decide_eq_true_eq, decide_eq_false_iff_not, true_and, and_true, Nat.sub_self, Nat.reduceSub, Nat.reduceAdd, ite_true, Option.some_inj, eq_self, isNone, Bool.not_true, Int.reduceEq, decide_true, decide_false, exists_eq_left', exists_eq_left, dl_1, dl_2, eq_nn, ne_nn, rgD_hs, Int.toNat_natCast, List.length_map, cut40]
    exact h
  · simp only [↓e_C, ↓e_V, ↓e_Fz, ↓e_Op, ↓e_Un, ↓e_B, ↓e_Chain, ↓e_AndT, ↓e_OrT, ↓e_NotT, ↓e_AndV, ↓e_OrV, ↓e_NotV, ↓e_If, ↓e_Nil, ↓e_Cons, ↓e_Tup, ↓e_Lst, ↓e_CB, ↓e_CBN, ↓e_Isi, ↓e_TupRg1, ↓e_LstRg1, ↓e_TupRg2, ↓e_LstRg2, ↓e_ScrLen, ↓e_ScrAt, ↓e_SeqI, ↓e_Enum, ↓e_Rng1, ↓e_Rng2, ↓e_Seq, ↓e_Next, ↓e_Break, ↓e_Cont, ↓e_Drop, ↓e_Ret, ↓e_RetN, ↓e_Ret0, ↓e_IfS, ↓e_Asg, ↓e_AsgN, ↓e_AsgLc, ↓e_mNil, ↓e_mVal, ↓e_mNew, ↓e_Par, ↓e_For, ↓e_LoopN, ↓e_LoopC, ↓e_Lc, ↓e_Yes, ↓e_Call, ↓e_CallN, ↓e_Append, ↓e_Extend, ↓e_Pop, ↓e_PopAt, ↓e_SetAt, ↓e_Sl, ↓e_NoP, ↓e_P, ↓e_Aug, ↓e_SrtSet, optP_some, vaP_val, boP_val, inP_val, muP_lst, vals_nil, vals_cons, brP_t, brP_f, brP_d, brP_n, scrOf, rg1, rg2, lstAt, lsOf, nt_of, nt_0, nt_1, slotR, slNew, slMu, slOf, setAll, Dl.En.set, Dl.En.wipe, wipeL, noMu_n, noMu_c, isMu_v, isMu_u, isMu_e, isMu_s, tg_nm, Dl.tg_tup, tgs_nil, tgs_cons, fSl, Rv.d, Rv.m, muD, rvDs, obAt, rvOb, obget_s, obget_e, obput_s, obput_e, put_nil, put_one, conv, argOf, argSlot, argExt, obsMu, seqD, env0, argSl, p_mul, p_mod, p_div, p_pow, p_catT, p_catL, p_maxI, p_minI, List.map_cons, List.map_nil, List.replicate_succ, List.replicate_zero, List.length_cons, List.length_nil, List.nil_append, List.cons_append, List.append_nil, List.getElem?_cons_zero, List.getElem?_cons_succ, List.getElem?_nil, List.set_cons_zero, List.set_cons_succ, List.set_nil, Option.bind_some, Option.bind_none, Option.map_some, Option.map_none, Option.some.injEq, Option.isSome_some, List.all_cons, List.all_nil, List.contains_nil, Bool.and_true, Bool.not_false, Bool.true_and, Rv.val.injEq, PyData.int.injEq, PyData.bool.injEq, PyData.tuple.injEq, PyData.list.injEq, and_assoc, Prod.mk.injEq, reduceCtorEq, Mu.lst.injEq, Int.reducePow, Int.reduceNeg, Int.reduceLT, Int.reduceLE, Int.reduceMul, Int.reduceAdd, Int.reduceSub, Int.reduceToNat, Nat.reduceLT, Nat.reduceLeDiff, Nat.zero_le, or_true, true_or, and_self, not_false_eq_true, forall_const, implies_true, if_true_left, false_or, or_false, p_oD, cut2m, List.all_cons, not_true_eq_false, false_implies, isi_bi, isi_bn, isi_bb, isi_bt, isi_bs, isi_ti, isi_tn, isi_tb, isi_tt, isi_ts, isi_si, isi_sn, isi_sb, isi_st, isi_ss, isi_ii, isi_in, isi_ib, isi_it, isi_is, x_add, x_sub, x_neg, x_lt, x_le, x_gt, x_ge, x_eqI, x_neI, x_is, x_isNot, x_ixL, x_ixT, x_int, x_abs, x_lenL, x_lenT, x_tupL, x_tupT, x_lstL, x_lstT, x_max2, x_min2, at0, at1, at2, at3, atNat, x_inT, x_inL, x_notInT, x_notInL, x_all, x_any, x_sumI, x_nilI, x_nnilI, x_nnilJ, x_eqT, x_neT, x_eqO, x_eqOI, isNone_oD, oD_n, oD_s, decide_eq_true_eq, decide_eq_false_iff_not, true_and, and_true, Nat.sub_self, Nat.reduceSub, Nat.reduceAdd, ite_true, Option.some_inj, eq_self, isNone, Bool.not_true, Int.reduceEq, decide_true, decide_false, exists_eq_left', exists_eq_left, dl_1, dl_2, eq_nn, ne_nn, rgD_hs, Int.toNat_natCast, List.length_map, cut40]
    rw [fil_empty]
    simp only [Bool.not_not]
    exact q
def T__law_may : DSp where
  run := fun args xt Q => ∃ (f : List (List Int)) (l : List Int), args = [.val (tF f), .val (tI l)] ∧ f.length ≤ 10000 ∧ l.length ≤ 10000 ∧ Q (.val (.bool (may f l))) xt
  mono := fun k ⟨a, b, e, h, h2, q⟩ => ⟨a, b, e, h, h2, k _ _ q⟩
def r__law_may : RS := dRet (dOp fNe (dFz (dLc (dSeqI (dV 0)) (.nm 2) (dB (dCall T__law_within 2 [false, false] (dCons (dV 1) (dCons (dV 2) dNil)))) (dC (.int 1)) [2])) (dFz (dLst dNil)))
theorem pure__law_may : PureOk T__law_may 2 3 r__law_may := by
  rintro _ xt Q _ ⟨f, l, rfl, hf, hl, q⟩
  unfold r__law_may
  simp only [↓e_C, ↓e_V, ↓e_Fz, ↓e_Op, ↓e_Un, ↓e_B, ↓e_Chain, ↓e_AndT, ↓e_OrT, ↓e_NotT, ↓e_AndV, ↓e_OrV, ↓e_NotV, ↓e_If, ↓e_Nil, ↓e_Cons, ↓e_Tup, ↓e_Lst, ↓e_CB, ↓e_CBN, ↓e_Isi, ↓e_TupRg1, ↓e_LstRg1, ↓e_TupRg2, ↓e_LstRg2, ↓e_ScrLen, ↓e_ScrAt, ↓e_SeqI, ↓e_Enum, ↓e_Rng1, ↓e_Rng2, ↓e_Seq, ↓e_Next, ↓e_Break, ↓e_Cont, ↓e_Drop, ↓e_Ret, ↓e_RetN, ↓e_Ret0, ↓e_IfS, ↓e_Asg, ↓e_AsgN, ↓e_AsgLc, ↓e_mNil, ↓e_mVal, ↓e_mNew, ↓e_Par, ↓e_For, ↓e_LoopN, ↓e_LoopC, ↓e_Lc, ↓e_Yes, ↓e_Call, ↓e_CallN, ↓e_Append, ↓e_Extend, ↓e_Pop, ↓e_PopAt, ↓e_SetAt, ↓e_Sl, ↓e_NoP, ↓e_P, ↓e_Aug, ↓e_SrtSet, optP_some, vaP_val, boP_val, inP_val, muP_lst, vals_nil, vals_cons, brP_t, brP_f, brP_d, brP_n, scrOf, rg1, rg2, lstAt, lsOf, nt_of, nt_0, nt_1, slotR, slNew, slMu, slOf, setAll, Dl.En.set, Dl.En.wipe, wipeL, noMu_n, noMu_c, isMu_v, isMu_u, isMu_e, isMu_s, tg_nm, Dl.tg_tup, tgs_nil, tgs_cons, fSl, Rv.d, Rv.m, muD, rvDs, obAt, rvOb, obget_s, obget_e, obput_s, obput_e, put_nil, put_one, conv, argOf, argSlot, argExt, obsMu, seqD, env0, argSl, p_mul, p_mod, p_div, p_pow, p_catT, p_catL, p_maxI, p_minI, List.map_cons, List.map_nil, List.replicate_succ, List.replicate_zero, List.length_cons, List.length_nil, List.nil_append, List.cons_append, List.append_nil, List.getElem?_cons_zero, List.getElem?_cons_succ, List.getElem?_nil, List.set_cons_zero, List.set_cons_succ, List.set_nil, Option.bind_some, Option.bind_none, Option.map_some, Option.map_none, Option.some.injEq, Option.isSome_some, List.all_cons, List.all_nil, List.contains_nil, Bool.and_true, Bool.not_false, Bool.true_and, Rv.val.injEq, PyData.int.injEq, PyData.bool.injEq, PyData.tuple.injEq, PyData.list.injEq, and_assoc, Prod.mk.injEq, reduceCtorEq, Mu.lst.injEq, Int.reducePow, Int.reduceNeg, Int.reduceLT, Int.reduceLE, Int.reduceMul, Int.reduceAdd, Int.reduceSub, Int.reduceToNat, Nat.reduceLT, Nat.reduceLeDiff, Nat.zero_le, or_true, true_or, and_self, not_false_eq_true, forall_const, implies_true, if_true_left, false_or, or_false, p_oD, cut2m, List.all_cons, not_true_eq_false, false_implies, isi_bi, isi_bn, isi_bb, isi_bt, isi_bs, isi_ti, isi_tn, isi_tb, isi_tt, isi_ts, isi_si, isi_sn, isi_sb, isi_st, isi_ss, isi_ii, isi_in, isi_ib, isi_it, isi_is, x_add, x_sub, x_neg, x_lt, x_le, x_gt, x_ge, x_eqI, x_neI, x_is, x_isNot, x_ixL, x_ixT, x_int, x_abs, x_lenL, x_lenT, x_tupL, x_tupT, x_lstL, x_lstT, x_max2, x_min2, at0, at1, at2, at3, atNat, x_inT, x_inL, x_notInT, x_notInL, x_all, x_any, x_sumI, x_nilI, x_nnilI, x_nnilJ, x_eqT, x_neT, x_eqO, x_eqOI, isNone_oD, oD_n, oD_s, decide_eq_true_eq, decide_eq_false_iff_not, true_and, and_true, Nat.sub_self, Nat.reduceSub, Nat.reduceAdd, ite_true, Option.some_inj, eq_self, isNone, Bool.not_true, Int.reduceEq, decide_true, decide_false, exists_eq_left', exists_eq_left, dl_1, dl_2, eq_nn, ne_nn, rgD_hs, Int.toNat_natCast, List.length_map, cut40]
  refine lcGo_fil (enc := tI) (fun one => within l one) (fun _ => .int 1) f hf (fun x _ => ⟨_, rfl, rfl, fun QT h => ?_, fun _ QE h => ?_⟩) ?_
  · simp only [↓e_C, ↓e_V, ↓e_Fz, ↓e_Op, ↓e_Un, ↓e_B, ↓e_Chain, ↓e_AndT, ↓e_OrT, ↓e_NotT, ↓e_AndV, ↓e_OrV, ↓e_NotV, ↓e_If, ↓e_Nil, ↓e_Cons, ↓e_Tup, ↓e_Lst, ↓e_CB, ↓e_CBN, ↓e_Isi, ↓e_TupRg1, ↓e_LstRg1, ↓e_TupRg2, ↓e_LstRg2, ↓e_ScrLen, ↓e_ScrAt, ↓e_SeqI, ↓e_Enum, ↓e_Rng1, ↓e_Rng2, ↓e_Seq, ↓e_Next, ↓e_Break, ↓e_Cont, ↓e_Drop, ↓e_Ret, ↓e_RetN, ↓e_Ret0, ↓e_IfS, ↓e_Asg, ↓e_AsgN, ↓e_AsgLc, ↓e_mNil, ↓e_mVal, ↓e_mNew, ↓e_Par, ↓e_For, ↓e_LoopN, ↓e_LoopC, ↓e_Lc, ↓e_Yes, ↓e_Call, ↓e_CallN, ↓e_Append, ↓e_Extend, ↓e_Pop, ↓e_PopAt, ↓e_SetAt, ↓e_Sl, ↓e_NoP, ↓e_P, ↓e_Aug, ↓e_SrtSet, optP_some, vaP_val, boP_val, inP_val, muP_lst, vals_nil, vals_cons, brP_t, brP_f, brP_d, brP_n, scrOf, rg1, rg2, lstAt, lsOf, nt_of, nt_0, nt_1, slotR, slNew, slMu, slOf, setAll, Dl.En.set, Dl.En.wipe, wipeL, noMu_n, noMu_c, isMu_v, isMu_u, isMu_e, isMu_s, tg_nm, Dl.tg_tup, tgs_nil, tgs_cons, fSl, Rv.d, Rv.m, muD, rvDs, obAt, rvOb, obget_s, obget_e, obput_s, obput_e, put_nil, put_one, conv, argOf, argSlot, argExt, obsMu, seqD, env0, argSl, p_mul, p_mod, p_div, p_pow, p_catT, p_catL, p_maxI, p_minI, List.map_cons, List.map_nil, List.replicate_succ, List.replicate_zero, List.length_cons, List.length_nil, List.nil_append, List.cons_append, List.append_nil, List.getElem?_cons_zero, List.getElem?_cons_succ, List.getElem?_nil, List.set_cons_zero, List.set_cons_succ, List.set_nil, Option.bind_some, Option.bind_none, Option.map_some, Option.map_none, Option.some.injEq, Option.isSome_some, List.all_cons, List.all_nil, List.contains_nil, Bool.and_true, Bool.not_false, Bool.true_and, Rv.val.injEq, PyData.int.injEq, PyData.bool.injEq, PyData.tuple.injEq, PyData.list.injEq, and_assoc, Prod.mk.injEq, reduceCtorEq, Mu.lst.injEq, Int.reducePow, Int.reduceNeg, Int.reduceLT, Int.reduceLE, Int.reduceMul, Int.reduceAdd, Int.reduceSub, Int.reduceToNat, Nat.reduceLT, Nat.reduceLeDiff, Nat.zero_le, or_true, true_or, and_self, not_false_eq_true, forall_const, implies_true, if_true_left, false_or, or_false, p_oD, cut2m, List.all_cons, not_true_eq_false, false_implies, isi_bi, isi_bn, isi_bb, isi_bt, isi_bs, isi_ti, isi_tn, isi_tb, isi_tt, isi_ts, isi_si, isi_sn, isi_sb, isi_st, isi_ss, isi_ii, isi_in, isi_ib, isi_it, isi_is, x_add, x_sub, x_neg, x_lt, x_le, x_gt, x_ge, x_eqI, x_neI, x_is, x_isNot, x_ixL, x_ixT, x_int, x_abs, x_lenL, x_lenT, x_tupL, x_tupT, x_lstL, x_lstT, x_max2, x_min2, at0, at1, at2, at3, atNat, x_inT, x_inL, x_notInT, x_notInL, x_all, x_any, x_sumI, x_nilI, x_nnilI, x_nnilJ, x_eqT, x_neT, x_eqO, x_eqOI, isNone_oD, oD_n, oD_s, decide_eq_true_eq, decide_eq_false_iff_not, true_and, and_true, Nat.sub_self, Nat.reduceSub, Nat.reduceAdd, ite_true, Option.some_inj, eq_self, isNone, Bool.not_true, Int.reduceEq, decide_true, decide_false, exists_eq_left', exists_eq_left, dl_1, dl_2, eq_nn, ne_nn, rgD_hs, Int.toNat_natCast, List.length_map, cut40]
    exact ⟨_, _, rfl, hl, by simp only [↓e_C, ↓e_V, ↓e_Fz, ↓e_Op, ↓e_Un, ↓e_B, ↓e_Chain, ↓e_AndT, ↓e_OrT, ↓e_NotT, ↓e_AndV, ↓e_OrV, ↓e_NotV, ↓e_If, ↓e_Nil, ↓e_Cons, ↓e_Tup, ↓e_Lst, ↓e_CB, ↓e_CBN, ↓e_Isi, ↓e_TupRg1, ↓e_LstRg1, ↓e_TupRg2, ↓e_LstRg2, ↓e_ScrLen, ↓e_ScrAt, ↓e_SeqI, ↓e_Enum, ↓e_Rng1, ↓e_Rng2, ↓e_Seq, ↓e_Next, ↓e_Break, ↓e_Cont, ↓e_Drop, ↓e_Ret, ↓e_RetN, ↓e_Ret0, ↓e_IfS, ↓e_Asg, ↓e_AsgN, ↓e_AsgLc, ↓e_mNil, ↓e_mVal, ↓e_mNew, ↓e_Par, ↓e_For, ↓e_LoopN, ↓e_LoopC, ↓e_Lc, ↓e_Yes, ↓e_Call, ↓e_CallN, ↓e_Append, ↓e_Extend, ↓e_Pop, ↓e_PopAt, ↓e_SetAt, ↓e_Sl, ↓e_NoP, ↓e_P, ↓e_Aug, ↓e_SrtSet, optP_some, vaP_val, boP_val, inP_val, muP_lst, vals_nil, vals_cons, brP_t, brP_f, brP_d, brP_n, scrOf, rg1, rg2, lstAt, lsOf, nt_of, nt_0, nt_1, slotR, slNew, slMu, slOf, setAll, Dl.En.set, Dl.En.wipe, wipeL, noMu_n, noMu_c, isMu_v, isMu_u, isMu_e, isMu_s, tg_nm, Dl.tg_tup, tgs_nil, tgs_cons, fSl, Rv.d, Rv.m, muD, rvDs, obAt, rvOb, obget_s, obget_e, obput_s, obput_e, put_nil, put_one, conv, argOf, argSlot, argExt, obsMu, seqD, env0, argSl, p_mul, p_mod, p_div, p_pow, p_catT, p_catL, p_maxI, p_minI, List.map_cons, List.map_nil, List.replicate_succ, List.replicate_zero, List.length_cons, List.length_nil, List.nil_append, List.cons_append, List.append_nil, List.getElem?_cons_zero, List.getElem?_cons_succ, List.getElem?_nil, List.set_cons_zero, List.set_cons_succ, List.set_nil, Option.bind_some, Option.bind_none, Option.map_some, Option.map_none, Option.some.injEq, Option.isSome_some, List.all_cons, List.all_nil, List.contains_nil, Bool.and_true, Bool.not_false, Bool.true_and, Rv.val.injEq, PyData.int.injEq, PyData.bool.injEq, PyData.tuple.injEq, PyData.list.injEq, and_assoc, Prod.mk.injEq, reduceCtorEq, Mu.lst.injEq, Int.reducePow, Int.reduceNeg, Int.reduceLT, Int.reduceLE, Int.reduceMul, Int.reduceAdd, Int.reduceSub, Int.reduceToNat, Nat.reduceLT, Nat.reduceLeDiff, Nat.zero_le, or_true, true_or, and_self, not_false_eq_true, forall_const, implies_true, if_true_left, false_or, or_false, p_oD, cut2m, List.all_cons, not_true_eq_false, false_implies, isi_bi, isi_bn, isi_bb, isi_bt, isi_bs, isi_ti, isi_tn, isi_tb, isi_tt, isi_ts, isi_si, isi_sn, isi_sb, isi_st, isi_ss, isi_ii, isi_in, isi_ib, isi_it, isi_is, x_add, x_sub, x_neg, x_lt, x_le, x_gt, x_ge, x_eqI, x_neI, x_is, x_isNot, x_ixL, x_ixT, x_int, x_abs, x_lenL, x_lenT, x_tupL, x_tupT, x_lstL, x_lstT, x_max2, x_min2, at0, at1, at2, at3, atNat, x_inT, x_inL, x_notInT, x_notInL, x_all, x_any, x_sumI, x_nilI, x_nnilI, x_nnilJ, x_eqT, x_neT, x_eqO, x_eqOI, isNone_oD, oD_n, oD_s, decide_eq_true_eq, decide_eq_false_iff_not, true_and, and_true, Nat.sub_self, Nat.reduceSub, Nat.reduceAdd, ite_true, Option.some_inj, eq_self, isNone, Bool.not_true, Int.reduceEq, decide_true, decide_false, exists_eq_left', exists_eq_left, dl_1, dl_2, eq_nn, ne_nn, rgD_hs, Int.toNat_natCast, List.length_map, cut40]; exact h⟩
  · simp only [↓e_C, ↓e_V, ↓e_Fz, ↓e_Op, ↓e_Un, ↓e_B, ↓e_Chain, ↓e_AndT, ↓e_OrT, ↓e_NotT, ↓e_AndV, ↓e_OrV, ↓e_NotV, ↓e_If, ↓e_Nil, ↓e_Cons, ↓e_Tup, ↓e_Lst, ↓e_CB, ↓e_CBN, ↓e_Isi, ↓e_TupRg1, ↓e_LstRg1, ↓e_TupRg2, ↓e_LstRg2, ↓e_ScrLen, ↓e_ScrAt, ↓e_SeqI, ↓e_Enum, ↓e_Rng1, ↓e_Rng2, ↓e_Seq, ↓e_Next, ↓e_Break, ↓e_Cont, ↓e_Drop, ↓e_Ret, ↓e_RetN, ↓e_Ret0, ↓e_IfS, ↓e_Asg, ↓e_AsgN, ↓e_AsgLc, ↓e_mNil, ↓e_mVal, ↓e_mNew, ↓e_Par, ↓e_For, ↓e_LoopN, ↓e_LoopC, ↓e_Lc, ↓e_Yes, ↓e_Call, ↓e_CallN, ↓e_Append, ↓e_Extend, ↓e_Pop, ↓e_PopAt, ↓e_SetAt, ↓e_Sl, ↓e_NoP, ↓e_P, ↓e_Aug, ↓e_SrtSet, optP_some, vaP_val, boP_val, inP_val, muP_lst, vals_nil, vals_cons, brP_t, brP_f, brP_d, brP_n, scrOf, rg1, rg2, lstAt, lsOf, nt_of, nt_0, nt_1, slotR, slNew, slMu, slOf, setAll, Dl.En.set, Dl.En.wipe, wipeL, noMu_n, noMu_c, isMu_v, isMu_u, isMu_e, isMu_s, tg_nm, Dl.tg_tup, tgs_nil, tgs_cons, fSl, Rv.d, Rv.m, muD, rvDs, obAt, rvOb, obget_s, obget_e, obput_s, obput_e, put_nil, put_one, conv, argOf, argSlot, argExt, obsMu, seqD, env0, argSl, p_mul, p_mod, p_div, p_pow, p_catT, p_catL, p_maxI, p_minI, List.map_cons, List.map_nil, List.replicate_succ, List.replicate_zero, List.length_cons, List.length_nil, List.nil_append, List.cons_append, List.append_nil, List.getElem?_cons_zero, List.getElem?_cons_succ, List.getElem?_nil, List.set_cons_zero, List.set_cons_succ, List.set_nil, Option.bind_some, Option.bind_none, Option.map_some, Option.map_none, Option.some.injEq, Option.isSome_some, List.all_cons, List.all_nil, List.contains_nil, Bool.and_true, Bool.not_false, Bool.true_and, Rv.val.injEq, PyData.int.injEq, PyData.bool.injEq, PyData.tuple.injEq, PyData.list.injEq, and_assoc, Prod.mk.injEq, reduceCtorEq, Mu.lst.injEq, Int.reducePow, Int.reduceNeg, Int.reduceLT, Int.reduceLE, Int.reduceMul, Int.reduceAdd, Int.reduceSub, Int.reduceToNat, Nat.reduceLT, Nat.reduceLeDiff, Nat.zero_le, or_true, true_or, and_self, not_false_eq_true, forall_const, implies_true, if_true_left, false_or, or_false, p_oD, cut2m, List.all_cons, not_true_eq_false, false_implies, isi_bi, isi_bn, isi_bb, isi_bt, isi_bs, isi_ti, isi_tn, isi_tb, isi_tt, isi_ts, isi_si, isi_sn, isi_sb, isi_st, isi_ss, isi_ii, isi_in, isi_ib, isi_it, isi_is, x_add, x_sub, x_neg, x_lt, x_le, x_gt, x_ge, x_eqI, x_neI, x_is, x_isNot, x_ixL, x_ixT, x_int, x_abs, x_lenL, x_lenT, x_tupL, x_tupT, x_lstL, x_lstT, x_max2, x_min2, at0, at1, at2, at3, atNat, x_inT, x_inL, x_notInT, x_notInL, x_all, x_any, x_sumI, x_nilI, x_nnilI, x_nnilJ, x_eqT, x_neT, x_eqO, x_eqOI, isNone_oD, oD_n, oD_s, decide_eq_true_eq, decide_eq_false_iff_not, true_and, and_true, Nat.sub_self, Nat.reduceSub, Nat.reduceAdd, ite_true, Option.some_inj, eq_self, isNone, Bool.not_true, Int.reduceEq, decide_true, decide_false, exists_eq_left', exists_eq_left, dl_1, dl_2, eq_nn, ne_nn, rgD_hs, Int.toNat_natCast, List.length_map, cut40]
    exact h
  · simp only [↓e_C, ↓e_V, ↓e_Fz, ↓e_Op, ↓e_Un, ↓e_B, ↓e_Chain, ↓e_AndT, ↓e_OrT, ↓e_NotT, ↓e_AndV, ↓e_OrV, ↓e_NotV, ↓e_If, ↓e_Nil, ↓e_Cons, ↓e_Tup, ↓e_Lst, ↓e_CB, ↓e_CBN, ↓e_Isi, ↓e_TupRg1, ↓e_LstRg1, ↓e_TupRg2, ↓e_LstRg2, ↓e_ScrLen, ↓e_ScrAt, ↓e_SeqI, ↓e_Enum, ↓e_Rng1, ↓e_Rng2, ↓e_Seq, ↓e_Next, ↓e_Break, ↓e_Cont, ↓e_Drop, ↓e_Ret, ↓e_RetN, ↓e_Ret0, ↓e_IfS, ↓e_Asg, ↓e_AsgN, ↓e_AsgLc, ↓e_mNil, ↓e_mVal, ↓e_mNew, ↓e_Par, ↓e_For, ↓e_LoopN, ↓e_LoopC, ↓e_Lc, ↓e_Yes, ↓e_Call, ↓e_CallN, ↓e_Append, ↓e_Extend, ↓e_Pop, ↓e_PopAt, ↓e_SetAt, ↓e_Sl, ↓e_NoP, ↓e_P, ↓e_Aug, ↓e_SrtSet, optP_some, vaP_val, boP_val, inP_val, muP_lst, vals_nil, vals_cons, brP_t, brP_f, brP_d, brP_n, scrOf, rg1, rg2, lstAt, lsOf, nt_of, nt_0, nt_1, slotR, slNew, slMu, slOf, setAll, Dl.En.set, Dl.En.wipe, wipeL, noMu_n, noMu_c, isMu_v, isMu_u, isMu_e, isMu_s, tg_nm, Dl.tg_tup, tgs_nil, tgs_cons, fSl, Rv.d, Rv.m, muD, rvDs, obAt, rvOb, obget_s, obget_e, obput_s, obput_e, put_nil, put_one, conv, argOf, argSlot, argExt, obsMu, seqD, env0, argSl, p_mul, p_mod, p_div, p_pow, p_catT, p_catL, p_maxI, p_minI, List.map_cons, List.map_nil, List.replicate_succ, List.replicate_zero, List.length_cons, List.length_nil, List.nil_append, List.cons_append, List.append_nil, List.getElem?_cons_zero, List.getElem?_cons_succ, List.getElem?_nil, List.set_cons_zero, List.set_cons_succ, List.set_nil, Option.bind_some, Option.bind_none, Option.map_some, Option.map_none, Option.some.injEq, Option.isSome_some, List.all_cons, List.all_nil, List.contains_nil, Bool.and_true, Bool.not_false, Bool.true_and, Rv.val.injEq, PyData.int.injEq, PyData.bool.injEq, PyData.tuple.injEq, PyData.list.injEq, and_assoc, Prod.mk.injEq, reduceCtorEq, Mu.lst.injEq, Int.reducePow, Int.reduceNeg, Int.reduceLT, Int.reduceLE, Int.reduceMul, Int.reduceAdd, Int.reduceSub, Int.reduceToNat, Nat.reduceLT, Nat.reduceLeDiff, Nat.zero_le, or_true, true_or, and_self, not_false_eq_true, forall_const, implies_true, if_true_left, false_or, or_false, p_oD, cut2m, List.all_cons, not_true_eq_false, false_implies, isi_bi, isi_bn, isi_bb, isi_bt, isi_bs, isi_ti, isi_tn, isi_tb, isi_tt, isi_ts, isi_si, isi_sn, isi_sb, isi_st, isi_ss, isi_ii, isi_in, isi_ib, isi_it, isi_is, x_add, x_sub, x_neg, x_lt, x_le, x_gt, x_ge, x_eqI, x_neI, x_is, x_isNot, x_ixL, x_ixT, x_int, x_abs, x_lenL, x_lenT, x_tupL, x_tupT, x_lstL, x_lstT, x_max2, x_min2, at0, at1, at2, at3, atNat, x_inT, x_inL, x_notInT, x_notInL, x_all, x_any, x_sumI, x_nilI, x_nnilI, x_nnilJ, x_eqT, x_neT, x_eqO, x_eqOI, isNone_oD, oD_n, oD_s, decide_eq_true_eq, decide_eq_false_iff_not, true_and, and_true, Nat.sub_self, Nat.reduceSub, Nat.reduceAdd, ite_true, Option.some_inj, eq_self, isNone, Bool.not_true, Int.reduceEq, decide_true, decide_false, exists_eq_left', exists_eq_left, dl_1, dl_2, eq_nn, ne_nn, rgD_hs, Int.toNat_natCast, List.length_map, cut40]
    rw [fil_empty]
    have e : (!f.all fun x => !within l x) = may f l := by
      unfold may
      rw [List.not_all_eq_any_not]
      simp only [Bool.not_not]
    rw [e]
    exact q
/-- drawn lots -/
def T__law_drawn_lot : DSp where
  run := fun args xt Q => ∃ (hs : List Int) (p : Int), args = [.ext 0, .val (tI hs), .val (.int p)] ∧ hs.length ≤ 10000 ∧ 0 < p ∧ p < 1073741824 ∧ Bx xt ∧ ∀ l xt', l.Sublist hs → Bx xt' → Q (.val (tI l)) xt'
  mono := fun k ⟨hs, p, e, h1, h2, h3, b, q⟩ => ⟨hs, p, e, h1, h2, h3, b, fun l xt' a c => k _ _ (q l xt' a c)⟩
def r__law_drawn_lot : RS := dRet (dCB fTuple (dCons (dFz (dLc (dSeqI (dV 1)) (.nm 3) (dB (dOp fEq (dCall T__law_take 2 [true, false] (dCons (dV 0) (dCons (dV 2) dNil))) (dC (.int 0)))) (dV 3) [3])) dNil))
theorem pure__law_drawn_lot : PureOk T__law_drawn_lot 3 4 r__law_drawn_lot := by
  rintro _ xt Q _ ⟨hs, p, rfl, h1, h2, h3, hb, q⟩
  unfold r__law_drawn_lot
  simp only [↓e_C, ↓e_V, ↓e_Fz, ↓e_Op, ↓e_Un, ↓e_B, ↓e_Chain, ↓e_AndT, ↓e_OrT, ↓e_NotT, ↓e_AndV, ↓e_OrV, ↓e_NotV, ↓e_If, ↓e_Nil, ↓e_Cons, ↓e_Tup, ↓e_Lst, ↓e_CB, ↓e_CBN, ↓e_Isi, ↓e_TupRg1, ↓e_LstRg1, ↓e_TupRg2, ↓e_LstRg2, ↓e_ScrLen, ↓e_ScrAt, ↓e_SeqI, ↓e_Enum, ↓e_Rng1, ↓e_Rng2, ↓e_Seq, ↓e_Next, ↓e_Break, ↓e_Cont, ↓e_Drop, ↓e_Ret, ↓e_RetN, ↓e_Ret0, ↓e_IfS, ↓e_Asg, ↓e_AsgN, ↓e_AsgLc, ↓e_mNil, ↓e_mVal, ↓e_mNew, ↓e_Par, ↓e_For, ↓e_LoopN, ↓e_LoopC, ↓e_Lc, ↓e_Yes, ↓e_Call, ↓e_CallN, ↓e_Append, ↓e_Extend, ↓e_Pop, ↓e_PopAt, ↓e_SetAt, ↓e_Sl, ↓e_NoP, ↓e_P, ↓e_Aug, ↓e_SrtSet, optP_some, vaP_val, boP_val, inP_val, muP_lst, vals_nil, vals_cons, brP_t, brP_f, brP_d, brP_n, scrOf, rg1, rg2, lstAt, lsOf, nt_of, nt_0, nt_1, slotR, slNew, slMu, slOf, setAll, Dl.En.set, Dl.En.wipe, wipeL, noMu_n, noMu_c, isMu_v, isMu_u, isMu_e, isMu_s, tg_nm, Dl.tg_tup, tgs_nil, tgs_cons, fSl, Rv.d, Rv.m, muD, rvDs, obAt, rvOb, obget_s, obget_e, obput_s, obput_e, put_nil, put_one, conv, argOf, argSlot, argExt, obsMu, seqD, env0, argSl, p_mul, p_mod, p_div, p_pow, p_catT, p_catL, p_maxI, p_minI, List.map_cons, List.map_nil, List.replicate_succ, List.replicate_zero, List.length_cons, List.length_nil, List.nil_append, List.cons_append, List.append_nil, List.getElem?_cons_zero, List.getElem?_cons_succ, List.getElem?_nil, List.set_cons_zero, List.set_cons_succ, List.set_nil, Option.bind_some, Option.bind_none, Option.map_some, Option.map_none, Option.some.injEq, Option.isSome_some, List.all_cons, List.all_nil, List.contains_nil, Bool.and_true, Bool.not_false, Bool.true_and, Rv.val.injEq, PyData.int.injEq, PyData.bool.injEq, PyData.tuple.injEq, PyData.list.injEq, and_assoc, Prod.mk.injEq, reduceCtorEq, Mu.lst.injEq, Int.reducePow, Int.reduceNeg, Int.reduceLT, Int.reduceLE, Int.reduceMul, Int.reduceAdd, Int.reduceSub, Int.reduceToNat, Nat.reduceLT, Nat.reduceLeDiff, Nat.zero_le, or_true, true_or, and_self, not_false_eq_true, forall_const, implies_true, if_true_left, false_or, or_false, p_oD, cut2m, List.all_cons, not_true_eq_false, false_implies, isi_bi, isi_bn, isi_bb, isi_bt, isi_bs, isi_ti, isi_tn, isi_tb, isi_tt, isi_ts, isi_si, isi_sn, isi_sb, isi_st, isi_ss, isi_ii, isi_in, isi_ib, isi_it, isi_is, x_add, x_sub, x_neg, x_lt, x_le, x_gt, x_ge, x_eqI, x_neI, x_is, x_isNot, x_ixL, x_ixT, x_int, x_abs, x_lenL, x_lenT, x_tupL, x_tupT, x_lstL, x_lstT, x_max2, x_min2, at0, at1, at2, at3, atNat, x_inT, x_inL, x_notInT, x_notInL, x_all, x_any, x_sumI, x_nilI, x_nnilI, x_nnilJ, x_eqT, x_neT, x_eqO, x_eqOI, isNone_oD, oD_n, oD_s, decide_eq_true_eq, decide_eq_false_iff_not, true_and, and_true, Nat.sub_self, Nat.reduceSub, Nat.reduceAdd, ite_true, Option.some_inj, eq_self, isNone, Bool.not_true, Int.reduceEq, decide_true, decide_false, exists_eq_left', exists_eq_left, dl_1, dl_2, eq_nn, ne_nn, rgD_hs, Int.toNat_natCast, List.length_map, cut40]
  refine lcGo_st (enc := PyData.int) (dec := PyData.int) Bx true (fun x y => x = y) hs [] xt hb (by simpa using h1) (fun x _ xt ⟨g, r, e⟩ => ⟨_, rfl, fun C c1 c2 => ?_⟩) fun ys xt' hs' hb' => ?_
  · subst e
    simp only [↓e_C, ↓e_V, ↓e_Fz, ↓e_Op, ↓e_Un, ↓e_B, ↓e_Chain, ↓e_AndT, ↓e_OrT, ↓e_NotT, ↓e_AndV, ↓e_OrV, ↓e_NotV, ↓e_If, ↓e_Nil, ↓e_Cons, ↓e_Tup, ↓e_Lst, ↓e_CB, ↓e_CBN, ↓e_Isi, ↓e_TupRg1, ↓e_LstRg1, ↓e_TupRg2, ↓e_LstRg2, ↓e_ScrLen, ↓e_ScrAt, ↓e_SeqI, ↓e_Enum, ↓e_Rng1, ↓e_Rng2, ↓e_Seq, ↓e_Next, ↓e_Break, ↓e_Cont, ↓e_Drop, ↓e_Ret, ↓e_RetN, ↓e_Ret0, ↓e_IfS, ↓e_Asg, ↓e_AsgN, ↓e_AsgLc, ↓e_mNil, ↓e_mVal, ↓e_mNew, ↓e_Par, ↓e_For, ↓e_LoopN, ↓e_LoopC, ↓e_Lc, ↓e_Yes, ↓e_Call, ↓e_CallN, ↓e_Append, ↓e_Extend, ↓e_Pop, ↓e_PopAt, ↓e_SetAt, ↓e_Sl, ↓e_NoP, ↓e_P, ↓e_Aug, ↓e_SrtSet, optP_some, vaP_val, boP_val, inP_val, muP_lst, vals_nil, vals_cons, brP_t, brP_f, brP_d, brP_n, scrOf, rg1, rg2, lstAt, lsOf, nt_of, nt_0, nt_1, slotR, slNew, slMu, slOf, setAll, Dl.En.set, Dl.En.wipe, wipeL, noMu_n, noMu_c, isMu_v, isMu_u, isMu_e, isMu_s, tg_nm, Dl.tg_tup, tgs_nil, tgs_cons, fSl, Rv.d, Rv.m, muD, rvDs, obAt, rvOb, obget_s, obget_e, obput_s, obput_e, put_nil, put_one, conv, argOf, argSlot, argExt, obsMu, seqD, env0, argSl, p_mul, p_mod, p_div, p_pow, p_catT, p_catL, p_maxI, p_minI, List.map_cons, List.map_nil, List.replicate_succ, List.replicate_zero, List.length_cons, List.length_nil, List.nil_append, List.cons_append, List.append_nil, List.getElem?_cons_zero, List.getElem?_cons_succ, List.getElem?_nil, List.set_cons_zero, List.set_cons_succ, List.set_nil, Option.bind_some, Option.bind_none, Option.map_some, Option.map_none, Option.some.injEq, Option.isSome_some, List.all_cons, List.all_nil, List.contains_nil, Bool.and_true, Bool.not_false, Bool.true_and, Rv.val.injEq, PyData.int.injEq, PyData.bool.injEq, PyData.tuple.injEq, PyData.list.injEq, and_assoc, Prod.mk.injEq, reduceCtorEq, Mu.lst.injEq, Int.reducePow, Int.reduceNeg, Int.reduceLT, Int.reduceLE, Int.reduceMul, Int.reduceAdd, Int.reduceSub, Int.reduceToNat, Nat.reduceLT, Nat.reduceLeDiff, Nat.zero_le, or_true, true_or, and_self, not_false_eq_true, forall_const, implies_true, if_true_left, false_or, or_false, p_oD, cut2m, List.all_cons, not_true_eq_false, false_implies, isi_bi, isi_bn, isi_bb, isi_bt, isi_bs, isi_ti, isi_tn, isi_tb, isi_tt, isi_ts, isi_si, isi_sn, isi_sb, isi_st, isi_ss, isi_ii, isi_in, isi_ib, isi_it, isi_is, x_add, x_sub, x_neg, x_lt, x_le, x_gt, x_ge, x_eqI, x_neI, x_is, x_isNot, x_ixL, x_ixT, x_int, x_abs, x_lenL, x_lenT, x_tupL, x_tupT, x_lstL, x_lstT, x_max2, x_min2, at0, at1, at2, at3, atNat, x_inT, x_inL, x_notInT, x_notInL, x_all, x_any, x_sumI, x_nilI, x_nnilI, x_nnilJ, x_eqT, x_neT, x_eqO, x_eqOI, isNone_oD, oD_n, oD_s, decide_eq_true_eq, decide_eq_false_iff_not, true_and, and_true, Nat.sub_self, Nat.reduceSub, Nat.reduceAdd, ite_true, Option.some_inj, eq_self, isNone, Bool.not_true, Int.reduceEq, decide_true, decide_false, exists_eq_left', exists_eq_left, dl_1, dl_2, eq_nn, ne_nn, rgD_hs, Int.toNat_natCast, List.length_map, cut40]
    refine box_take h2 h3 fun n g' r' h0 hn => ?_
    simp only [↓e_C, ↓e_V, ↓e_Fz, ↓e_Op, ↓e_Un, ↓e_B, ↓e_Chain, ↓e_AndT, ↓e_OrT, ↓e_NotT, ↓e_AndV, ↓e_OrV, ↓e_NotV, ↓e_If, ↓e_Nil, ↓e_Cons, ↓e_Tup, ↓e_Lst, ↓e_CB, ↓e_CBN, ↓e_Isi, ↓e_TupRg1, ↓e_LstRg1, ↓e_TupRg2, ↓e_LstRg2, ↓e_ScrLen, ↓e_ScrAt, ↓e_SeqI, ↓e_Enum, ↓e_Rng1, ↓e_Rng2, ↓e_Seq, ↓e_Next, ↓e_Break, ↓e_Cont, ↓e_Drop, ↓e_Ret, ↓e_RetN, ↓e_Ret0, ↓e_IfS, ↓e_Asg, ↓e_AsgN, ↓e_AsgLc, ↓e_mNil, ↓e_mVal, ↓e_mNew, ↓e_Par, ↓e_For, ↓e_LoopN, ↓e_LoopC, ↓e_Lc, ↓e_Yes, ↓e_Call, ↓e_CallN, ↓e_Append, ↓e_Extend, ↓e_Pop, ↓e_PopAt, ↓e_SetAt, ↓e_Sl, ↓e_NoP, ↓e_P, ↓e_Aug, ↓e_SrtSet, optP_some, vaP_val, boP_val, inP_val, muP_lst, vals_nil, vals_cons, brP_t, brP_f, brP_d, brP_n, scrOf, rg1, rg2, lstAt, lsOf, nt_of, nt_0, nt_1, slotR, slNew, slMu, slOf, setAll, Dl.En.set, Dl.En.wipe, wipeL, noMu_n, noMu_c, isMu_v, isMu_u, isMu_e, isMu_s, tg_nm, Dl.tg_tup, tgs_nil, tgs_cons, fSl, Rv.d, Rv.m, muD, rvDs, obAt, rvOb, obget_s, obget_e, obput_s, obput_e, put_nil, put_one, conv, argOf, argSlot, argExt, obsMu, seqD, env0, argSl, p_mul, p_mod, p_div, p_pow, p_catT, p_catL, p_maxI, p_minI, List.map_cons, List.map_nil, List.replicate_succ, List.replicate_zero, List.length_cons, List.length_nil, List.nil_append, List.cons_append, List.append_nil, List.getElem?_cons_zero, List.getElem?_cons_succ, List.getElem?_nil, List.set_cons_zero, List.set_cons_succ, List.set_nil, Option.bind_some, Option.bind_none, Option.map_some, Option.map_none, Option.some.injEq, Option.isSome_some, List.all_cons, List.all_nil, List.contains_nil, Bool.and_true, Bool.not_false, Bool.true_and, Rv.val.injEq, PyData.int.injEq, PyData.bool.injEq, PyData.tuple.injEq, PyData.list.injEq, and_assoc, Prod.mk.injEq, reduceCtorEq, Mu.lst.injEq, Int.reducePow, Int.reduceNeg, Int.reduceLT, Int.reduceLE, Int.reduceMul, Int.reduceAdd, Int.reduceSub, Int.reduceToNat, Nat.reduceLT, Nat.reduceLeDiff, Nat.zero_le, or_true, true_or, and_self, not_false_eq_true, forall_const, implies_true, if_true_left, false_or, or_false, p_oD, cut2m, List.all_cons, not_true_eq_false, false_implies, isi_bi, isi_bn, isi_bb, isi_bt, isi_bs, isi_ti, isi_tn, isi_tb, isi_tt, isi_ts, isi_si, isi_sn, isi_sb, isi_st, isi_ss, isi_ii, isi_in, isi_ib, isi_it, isi_is, x_add, x_sub, x_neg, x_lt, x_le, x_gt, x_ge, x_eqI, x_neI, x_is, x_isNot, x_ixL, x_ixT, x_int, x_abs, x_lenL, x_lenT, x_tupL, x_tupT, x_lstL, x_lstT, x_max2, x_min2, at0, at1, at2, at3, atNat, x_inT, x_inL, x_notInT, x_notInL, x_all, x_any, x_sumI, x_nilI, x_nnilI, x_nnilJ, x_eqT, x_neT, x_eqO, x_eqOI, isNone_oD, oD_n, oD_s, decide_eq_true_eq, decide_eq_false_iff_not, true_and, and_true, Nat.sub_self, Nat.reduceSub, Nat.reduceAdd, ite_true, Option.some_inj, eq_self, isNone, Bool.not_true, Int.reduceEq, decide_true, decide_false, exists_eq_left', exists_eq_left, dl_1, dl_2, eq_nn, ne_nn, rgD_hs, Int.toNat_natCast, List.length_map, cut40]
    exact ⟨fun _ => c1 x _ rfl ⟨_, _, rfl⟩, fun _ => c2 rfl _ ⟨_, _, rfl⟩⟩
  · simp only [↓e_C, ↓e_V, ↓e_Fz, ↓e_Op, ↓e_Un, ↓e_B, ↓e_Chain, ↓e_AndT, ↓e_OrT, ↓e_NotT, ↓e_AndV, ↓e_OrV, ↓e_NotV, ↓e_If, ↓e_Nil, ↓e_Cons, ↓e_Tup, ↓e_Lst, ↓e_CB, ↓e_CBN, ↓e_Isi, ↓e_TupRg1, ↓e_LstRg1, ↓e_TupRg2, ↓e_LstRg2, ↓e_ScrLen, ↓e_ScrAt, ↓e_SeqI, ↓e_Enum, ↓e_Rng1, ↓e_Rng2, ↓e_Seq, ↓e_Next, ↓e_Break, ↓e_Cont, ↓e_Drop, ↓e_Ret, ↓e_RetN, ↓e_Ret0, ↓e_IfS, ↓e_Asg, ↓e_AsgN, ↓e_AsgLc, ↓e_mNil, ↓e_mVal, ↓e_mNew, ↓e_Par, ↓e_For, ↓e_LoopN, ↓e_LoopC, ↓e_Lc, ↓e_Yes, ↓e_Call, ↓e_CallN, ↓e_Append, ↓e_Extend, ↓e_Pop, ↓e_PopAt, ↓e_SetAt, ↓e_Sl, ↓e_NoP, ↓e_P, ↓e_Aug, ↓e_SrtSet, optP_some, vaP_val, boP_val, inP_val, muP_lst, vals_nil, vals_cons, brP_t, brP_f, brP_d, brP_n, scrOf, rg1, rg2, lstAt, lsOf, nt_of, nt_0, nt_1, slotR, slNew, slMu, slOf, setAll, Dl.En.set, Dl.En.wipe, wipeL, noMu_n, noMu_c, isMu_v, isMu_u, isMu_e, isMu_s, tg_nm, Dl.tg_tup, tgs_nil, tgs_cons, fSl, Rv.d, Rv.m, muD, rvDs, obAt, rvOb, obget_s, obget_e, obput_s, obput_e, put_nil, put_one, conv, argOf, argSlot, argExt, obsMu, seqD, env0, argSl, p_mul, p_mod, p_div, p_pow, p_catT, p_catL, p_maxI, p_minI, List.map_cons, List.map_nil, List.replicate_succ, List.replicate_zero, List.length_cons, List.length_nil, List.nil_append, List.cons_append, List.append_nil, List.getElem?_cons_zero, List.getElem?_cons_succ, List.getElem?_nil, List.set_cons_zero, List.set_cons_succ, List.set_nil, Option.bind_some, Option.bind_none, Option.map_some, Option.map_none, Option.some.injEq, Option.isSome_some, List.all_cons, List.all_nil, List.contains_nil, Bool.and_true, Bool.not_false, Bool.true_and, Rv.val.injEq, PyData.int.injEq, PyData.bool.injEq, PyData.tuple.injEq, PyData.list.injEq, and_assoc, Prod.mk.injEq, reduceCtorEq, Mu.lst.injEq, Int.reducePow, Int.reduceNeg, Int.reduceLT, Int.reduceLE, Int.reduceMul, Int.reduceAdd, Int.reduceSub, Int.reduceToNat, Nat.reduceLT, Nat.reduceLeDiff, Nat.zero_le, or_true, true_or, and_self, not_false_eq_true, forall_const, implies_true, if_true_left, false_or, or_false, p_oD, cut2m, List.all_cons, not_true_eq_false, false_implies, isi_bi, isi_bn, isi_bb, isi_bt, isi_bs, isi_ti, isi_tn, isi_tb, isi_tt, isi_ts, isi_si, isi_sn, isi_sb, isi_st, isi_ss, isi_ii, isi_in, isi_ib, isi_it, isi_is, x_add, x_sub, x_neg, x_lt, x_le, x_gt, x_ge, x_eqI, x_neI, x_is, x_isNot, x_ixL, x_ixT, x_int, x_abs, x_lenL, x_lenT, x_tupL, x_tupT, x_lstL, x_lstT, x_max2, x_min2, at0, at1, at2, at3, atNat, x_inT, x_inL, x_notInT, x_notInL, x_all, x_any, x_sumI, x_nilI, x_nnilI, x_nnilJ, x_eqT, x_neT, x_eqO, x_eqOI, isNone_oD, oD_n, oD_s, decide_eq_true_eq, decide_eq_false_iff_not, true_and, and_true, Nat.sub_self, Nat.reduceSub, Nat.reduceAdd, ite_true, Option.some_inj, eq_self, isNone, Bool.not_true, Int.reduceEq, decide_true, decide_false, exists_eq_left', exists_eq_left, dl_1, dl_2, eq_nn, ne_nn, rgD_hs, Int.toNat_natCast, List.length_map, cut40]
    exact q ys xt' (hs'.sub fun _ _ h => h) hb'
theorem box_lot {g r : Int} {hs : List Int} {p : Int} {Q : Res → List Mu → Prop} (h1 : hs.length ≤ 10000) (h2 : 0 < p) (h3 : p < 1073741824) (q : ∀ (l : List Int) (g' r' : Int), l.Sublist hs → Q (.val (tI l)) [.lst [.int g', .int r']]) :
    T__law_drawn_lot.run [.ext 0, .val (tI hs), .val (.int p)] [.lst [.int g, .int r]] Q := ⟨hs, p, rfl, h1, h2, h3, ⟨g, r, rfl⟩, fun l xt' hl ⟨g', r', e⟩ => by subst e; exact q l g' r' hl⟩
end Dl
namespace Dl
open PySem L2
/-! ### the greatest of some lots -/
def greatest (out : List (List Int)) : List (List Int) := out.filter fun one => (out.filter fun two => !decide (one = two) && within one two).isEmpty
def T__law_greatest : DSp where
  run := fun args xt Q => ∃ kss : List (List Int), args = [.val (.list (kss.map tI))] ∧ kss.length < 64 ∧ (∀ k ∈ kss, k.length ≤ 10000) ∧ ∀ out, SSet kss out → Q (.val (tF (greatest out))) xt
  mono := fun k ⟨kss, e, h, h2, q⟩ => ⟨kss, e, h, h2, fun out ho => k _ _ (q out ho)⟩
def r__law_greatest : RS := dSeq (dAsg (dFz (dSrtSet (dV 0))) (.nm 1)) (dRet (dCB fTuple (dCons (dFz (dLc (dSeqI (dV 1)) (.nm 2) (dB (dOp fEq (dFz (dLc (dSeqI (dV 1)) (.nm 3) (dAndT (dB (dOp fNe (dV 2) (dV 3))) (dB (dCall T__law_within 2 [false, false] (dCons (dV 2) (dCons (dV 3) dNil))))) (dC (.int 1)) [3])) (dFz (dLst dNil)))) (dV 2) [2])) dNil)))
theorem nodup_le {α : Type} [DecidableEq α] : ∀ {l m : List α}, l.Nodup → (∀ x ∈ l, x ∈ m) → l.length ≤ m.length
  | [], _, _, _ => Nat.zero_le _
  | x :: l, m, hn, hs => by
    obtain ⟨h1, h2⟩ := List.nodup_cons.mp hn
    have hx : x ∈ m := hs x List.mem_cons_self
    have ih := nodup_le (l := l) (m := m.erase x) h2 fun y hy => by
      have hne : y ≠ x := fun e => h1 (e ▸ hy)
      exact (List.mem_erase_of_ne hne).2 (hs y (List.mem_cons_of_mem _ hy))
    have e := List.length_erase_of_mem hx
    have hp : 0 < m.length := List.length_pos_of_mem hx
    rw [List.length_cons]
    omega
theorem SSet.len {kss out : List (List Int)} (h : SSet kss out) : out.length ≤ kss.length := nodup_le h.nd fun x hx => (h.mem x).mp hx
theorem pure__law_greatest : PureOk T__law_greatest 1 4 r__law_greatest := by
  rintro _ xt Q _ ⟨kss, rfl, h1, h2, q⟩
  unfold r__law_greatest
  simp only [↓e_C, ↓e_V, ↓e_Fz, ↓e_Op, ↓e_Un, ↓e_B, ↓e_Chain, ↓e_AndT, ↓e_OrT, ↓e_NotT, ↓e_AndV, ↓e_OrV, ↓e_NotV, ↓e_If, ↓e_Nil, ↓e_Cons, ↓e_Tup, ↓e_Lst, ↓e_CB, ↓e_CBN, ↓e_Isi, ↓e_TupRg1, ↓e_LstRg1, ↓e_TupRg2, ↓e_LstRg2, ↓e_ScrLen, ↓e_ScrAt, ↓e_SeqI, ↓e_Enum, ↓e_Rng1, ↓e_Rng2, ↓e_Seq, ↓e_Next, ↓e_Break, ↓e_Cont, ↓e_Drop, ↓e_Ret, ↓e_RetN, ↓e_Ret0, ↓e_IfS, ↓e_Asg, ↓e_AsgN, ↓e_AsgLc, ↓e_mNil, ↓e_mVal, ↓e_mNew, ↓e_Par, ↓e_For, ↓e_LoopN, ↓e_LoopC, ↓e_Lc, ↓e_Yes, ↓e_Call, ↓e_CallN, ↓e_Append, ↓e_Extend, ↓e_Pop, ↓e_PopAt, ↓e_SetAt, ↓e_Sl, ↓e_NoP, ↓e_P, ↓e_Aug, ↓e_SrtSet, optP_some, vaP_val, boP_val, inP_val, muP_lst, vals_nil, vals_cons, brP_t, brP_f, brP_d, brP_n, scrOf, rg1, rg2, lstAt, lsOf, nt_of, nt_0, nt_1, slotR, slNew, slMu, slOf, setAll, Dl.En.set, Dl.En.wipe, wipeL, noMu_n, noMu_c, isMu_v, isMu_u, isMu_e, isMu_s, tg_nm, Dl.tg_tup, tgs_nil, tgs_cons, fSl, Rv.d, Rv.m, muD, rvDs, obAt, rvOb, obget_s, obget_e, obput_s, obput_e, put_nil, put_one, conv, argOf, argSlot, argExt, obsMu, seqD, env0, argSl, p_mul, p_mod, p_div, p_pow, p_catT, p_catL, p_maxI, p_minI, List.map_cons, List.map_nil, List.replicate_succ, List.replicate_zero, List.length_cons, List.length_nil, List.nil_append, List.cons_append, List.append_nil, List.getElem?_cons_zero, List.getElem?_cons_succ, List.getElem?_nil, List.set_cons_zero, List.set_cons_succ, List.set_nil, Option.bind_some, Option.bind_none, Option.map_some, Option.map_none, Option.some.injEq, Option.isSome_some, List.all_cons, List.all_nil, List.contains_nil, Bool.and_true, Bool.not_false, Bool.true_and, Rv.val.injEq, PyData.int.injEq, PyData.bool.injEq, PyData.tuple.injEq, PyData.list.injEq, and_assoc, Prod.mk.injEq, reduceCtorEq, Mu.lst.injEq, Int.reducePow, Int.reduceNeg, Int.reduceLT, Int.reduceLE, Int.reduceMul, Int.reduceAdd, Int.reduceSub, Int.reduceToNat, Nat.reduceLT, Nat.reduceLeDiff, Nat.zero_le, or_true, true_or, and_self, not_false_eq_true, forall_const, implies_true, if_true_left, false_or, or_false, p_oD, cut2m, List.all_cons, not_true_eq_false, false_implies, isi_bi, isi_bn, isi_bb, isi_bt, isi_bs, isi_ti, isi_tn, isi_tb, isi_tt, isi_ts, isi_si, isi_sn, isi_sb, isi_st, isi_ss, isi_ii, isi_in, isi_ib, isi_it, isi_is, x_add, x_sub, x_neg, x_lt, x_le, x_gt, x_ge, x_eqI, x_neI, x_is, x_isNot, x_ixL, x_ixT, x_int, x_abs, x_lenL, x_lenT, x_tupL, x_tupT, x_lstL, x_lstT, x_max2, x_min2, at0, at1, at2, at3, atNat, x_inT, x_inL, x_notInT, x_notInL, x_all, x_any, x_sumI, x_nilI, x_nnilI, x_nnilJ, x_eqT, x_neT, x_eqO, x_eqOI, isNone_oD, oD_n, oD_s, decide_eq_true_eq, decide_eq_false_iff_not, true_and, and_true, Nat.sub_self, Nat.reduceSub, Nat.reduceAdd, ite_true, Option.some_inj, eq_self, isNone, Bool.not_true, Int.reduceEq, decide_true, decide_false, exists_eq_left', exists_eq_left, dl_1, dl_2, eq_nn, ne_nn, rgD_hs, Int.toNat_natCast, List.length_map, cut40]
  refine ⟨kss, rfl, h1, fun out ho => ?_⟩
  have hl : out.length ≤ 10000 := by have := ho.len; omega
  have h2' : ∀ k ∈ out, k.length ≤ 10000 := fun k hk => h2 k ((ho.mem k).mp hk)
  refine lcGo_fil (enc := tI) (fun one => (out.filter fun two => !decide (one = two) && within one two).isEmpty) tI out hl (fun one hone => ⟨_, rfl, rfl, fun QT h => ?_, fun _ QE h => ?_⟩) ?_
  · simp only [↓e_C, ↓e_V, ↓e_Fz, ↓e_Op, ↓e_Un, ↓e_B, ↓e_Chain, ↓e_AndT, ↓e_OrT, ↓e_NotT, ↓e_AndV, ↓e_OrV, ↓e_NotV, ↓e_If, ↓e_Nil, ↓e_Cons, ↓e_Tup, ↓e_Lst, ↓e_CB, ↓e_CBN, ↓e_Isi, ↓e_TupRg1, ↓e_LstRg1, ↓e_TupRg2, ↓e_LstRg2, ↓e_ScrLen, ↓e_ScrAt, ↓e_SeqI, ↓e_Enum, ↓e_Rng1, ↓e_Rng2, ↓e_Seq, ↓e_Next, ↓e_Break, ↓e_Cont, ↓e_Drop, ↓e_Ret, ↓e_RetN, ↓e_Ret0, ↓e_IfS, ↓e_Asg, ↓e_AsgN, ↓e_AsgLc, ↓e_mNil, ↓e_mVal, ↓e_mNew, ↓e_Par, ↓e_For, ↓e_LoopN, ↓e_LoopC, ↓e_Lc, ↓e_Yes, ↓e_Call, ↓e_CallN, ↓e_Append, ↓e_Extend, ↓e_Pop, ↓e_PopAt, ↓e_SetAt, ↓e_Sl, ↓e_NoP, ↓e_P, ↓e_Aug, ↓e_SrtSet, optP_some, vaP_val, boP_val, inP_val, muP_lst, vals_nil, vals_cons, brP_t, brP_f, brP_d, brP_n, scrOf, rg1, rg2, lstAt, lsOf, nt_of, nt_0, nt_1, slotR, slNew, slMu, slOf, setAll, Dl.En.set, Dl.En.wipe, wipeL, noMu_n, noMu_c, isMu_v, isMu_u, isMu_e, isMu_s, tg_nm, Dl.tg_tup, tgs_nil, tgs_cons, fSl, Rv.d, Rv.m, muD, rvDs, obAt, rvOb, obget_s, obget_e, obput_s, obput_e, put_nil, put_one, conv, argOf, argSlot, argExt, obsMu, seqD, env0, argSl, p_mul, p_mod, p_div, p_pow, p_catT, p_catL, p_maxI, p_minI, List.map_cons, List.map_nil, List.replicate_succ, List.replicate_zero, List.length_cons, List.length_nil, List.nil_append, List.cons_append, List.append_nil, List.getElem?_cons_zero, List.getElem?_cons_succ, List.getElem?_nil, List.set_cons_zero, List.set_cons_succ, List.set_nil, Option.bind_some, Option.bind_none, Option.map_some, Option.map_none, Option.some.injEq, Option.isSome_some, List.all_cons, List.all_nil, List.contains_nil, Bool.and_true, Bool.not_false, Bool.true_and, Rv.val.injEq, PyData.int.injEq, PyData.bool.injEq, PyData.tuple.injEq, PyData.list.injEq, and_assoc, Prod.mk.injEq, reduceCtorEq, Mu.lst.injEq, Int.reducePow, Int.reduceNeg, Int.reduceLT, Int.reduceLE, Int.reduceMul, Int.reduceAdd, Int.reduceSub, Int.reduceToNat, Nat.reduceLT, Nat.reduceLeDiff, Nat.zero_le, or_true, true_or, and_self, not_false_eq_true, forall_const, implies_true, if_true_left, false_or, or_false, p_oD, cut2m, List.all_cons, not_true_eq_false, false_implies, isi_bi, isi_bn, isi_bb, isi_bt, isi_bs, isi_ti, isi_tn, isi_tb, isi_tt, isi_ts, isi_si, isi_sn, isi_sb, isi_st, isi_ss, isi_ii, isi_in, isi_ib, isi_it, isi_is, x_add, x_sub, x_neg, x_lt, x_le, x_gt, x_ge, x_eqI, x_neI, x_is, x_isNot, x_ixL, x_ixT, x_int, x_abs, x_lenL, x_lenT, x_tupL, x_tupT, x_lstL, x_lstT, x_max2, x_min2, at0, at1, at2, at3, atNat, x_inT, x_inL, x_notInT, x_notInL, x_all, x_any, x_sumI, x_nilI, x_nnilI, x_nnilJ, x_eqT, x_neT, x_eqO, x_eqOI, isNone_oD, oD_n, oD_s, decide_eq_true_eq, decide_eq_false_iff_not, true_and, and_true, Nat.sub_self, Nat.reduceSub, Nat.reduceAdd, ite_true, Option.some_inj, eq_self, isNone, Bool.not_true, Int.reduceEq, decide_true, decide_false, exists_eq_left', exists_eq_left, dl_1, dl_2, eq_nn, ne_nn, rgD_hs, Int.toNat_natCast, List.length_map, cut40]
    refine lcGo_fil (enc := tI) (fun two => !decide (one = two) && within one two) (fun _ => .int 1) out hl (fun two _ => ⟨_, rfl, rfl, fun QT h => ?_, fun _ QE h => ?_⟩) ?_
    · simp only [↓e_C, ↓e_V, ↓e_Fz, ↓e_Op, ↓e_Un, ↓e_B, ↓e_Chain, ↓e_AndT, ↓e_OrT, ↓e_NotT, ↓e_AndV, ↓e_OrV, ↓e_NotV, ↓e_If, ↓e_Nil, ↓e_Cons, ↓e_Tup, ↓e_Lst, ↓e_CB, ↓e_CBN, ↓e_Isi, ↓e_TupRg1, ↓e_LstRg1, ↓e_TupRg2, ↓e_LstRg2, ↓e_ScrLen, ↓e_ScrAt, ↓e_SeqI, ↓e_Enum, ↓e_Rng1, ↓e_Rng2, ↓e_Seq, ↓e_Next, ↓e_Break, ↓e_Cont, ↓e_Drop, ↓e_Ret, ↓e_RetN, ↓e_Ret0, ↓e_IfS, ↓e_Asg, ↓e_AsgN, ↓e_AsgLc, ↓e_mNil, ↓e_mVal, ↓e_mNew, ↓e_Par, ↓e_For, ↓e_LoopN, ↓e_LoopC, ↓e_Lc, ↓e_Yes, ↓e_Call, ↓e_CallN, ↓e_Append, ↓e_Extend, ↓e_Pop, ↓e_PopAt, ↓e_SetAt, ↓e_Sl, ↓e_NoP, ↓e_P, ↓e_Aug, ↓e_SrtSet, optP_some, vaP_val, boP_val, inP_val, muP_lst, vals_nil, vals_cons, brP_t, brP_f, brP_d, brP_n, scrOf, rg1, rg2, lstAt, lsOf, nt_of, nt_0, nt_1, slotR, slNew, slMu, slOf, setAll, Dl.En.set, Dl.En.wipe, wipeL, noMu_n, noMu_c, isMu_v, isMu_u, isMu_e, isMu_s, tg_nm, Dl.tg_tup, tgs_nil, tgs_cons, fSl, Rv.d, Rv.m, muD, rvDs, obAt, rvOb, obget_s, obget_e, obput_s, obput_e, put_nil, put_one, conv, argOf, argSlot, argExt, obsMu, seqD, env0, argSl, p_mul, p_mod, p_div, p_pow, p_catT, p_catL, p_maxI, p_minI, List.map_cons, List.map_nil, List.replicate_succ, List.replicate_zero, List.length_cons, List.length_nil, List.nil_append, List.cons_append, List.append_nil, List.getElem?_cons_zero, List.getElem?_cons_succ, List.getElem?_nil, List.set_cons_zero, List.set_cons_succ, List.set_nil, Option.bind_some, Option.bind_none, Option.map_some, Option.map_none, Option.some.injEq, Option.isSome_some, List.all_cons, List.all_nil, List.contains_nil, Bool.and_true, Bool.not_false, Bool.true_and, Rv.val.injEq, PyData.int.injEq, PyData.bool.injEq, PyData.tuple.injEq, PyData.list.injEq, and_assoc, Prod.mk.injEq, reduceCtorEq, Mu.lst.injEq, Int.reducePow, Int.reduceNeg, Int.reduceLT, Int.reduceLE, Int.reduceMul, Int.reduceAdd, Int.reduceSub, Int.reduceToNat, Nat.reduceLT, Nat.reduceLeDiff, Nat.zero_le, or_true, true_or, and_self, not_false_eq_true, forall_const, implies_true, if_true_left, false_or, or_false, p_oD, cut2m, List.all_cons, not_true_eq_false, false_implies, isi_bi, isi_bn, isi_bb, isi_bt, isi_bs, isi_ti, isi_tn, isi_tb, isi_tt, isi_ts, isi_si, isi_sn, isi_sb, isi_st, isi_ss, isi_ii, isi_in, isi_ib, isi_it, isi_is, x_add, x_sub, x_neg, x_lt, x_le, x_gt, x_ge, x_eqI, x_neI, x_is, x_isNot, x_ixL, x_ixT, x_int, x_abs, x_lenL, x_lenT, x_tupL, x_tupT, x_lstL, x_lstT, x_max2, x_min2, at0, at1, at2, at3, atNat, x_inT, x_inL, x_notInT, x_notInL, x_all, x_any, x_sumI, x_nilI, x_nnilI, x_nnilJ, x_eqT, x_neT, x_eqO, x_eqOI, isNone_oD, oD_n, oD_s, decide_eq_true_eq, decide_eq_false_iff_not, true_and, and_true, Nat.sub_self, Nat.reduceSub, Nat.reduceAdd, ite_true, Option.some_inj, eq_self, isNone, Bool.not_true, Int.reduceEq, decide_true, decide_false, exists_eq_left', exists_eq_left, dl_1, dl_2, eq_nn, ne_nn, rgD_hs, Int.toNat_natCast, List.length_map, cut40]
      refine ⟨fun e => ?_, fun e => ?_⟩
      · simp only [e, decide_true, Bool.not_true, Bool.false_and] at h ⊢
        exact h
      · simp only [e, decide_false, Bool.not_false, Bool.true_and] at h
        exact ⟨_, _, rfl, h2' one hone, by simp only [↓e_C, ↓e_V, ↓e_Fz, ↓e_Op, ↓e_Un, ↓e_B, ↓e_Chain, ↓e_AndT, ↓e_OrT, ↓e_NotT, ↓e_AndV, ↓e_OrV, ↓e_NotV, ↓e_If, ↓e_Nil, ↓e_Cons, ↓e_Tup, ↓e_Lst, ↓e_CB, ↓e_CBN, ↓e_Isi, ↓e_TupRg1, ↓e_LstRg1, ↓e_TupRg2, ↓e_LstRg2, ↓e_ScrLen, ↓e_ScrAt, ↓e_SeqI, ↓e_Enum, ↓e_Rng1, ↓e_Rng2, ↓e_Seq, ↓e_Next, ↓e_Break, ↓e_Cont, ↓e_Drop, ↓e_Ret, ↓e_RetN, ↓e_Ret0, ↓e_IfS, ↓e_Asg, ↓e_AsgN, ↓e_AsgLc, ↓e_mNil, ↓e_mVal, ↓e_mNew, ↓e_Par, ↓e_For, ↓e_LoopN, ↓e_LoopC, ↓e_Lc, ↓e_Yes, ↓e_Call, ↓e_CallN, ↓e_Append, ↓e_Extend, ↓e_Pop, ↓e_PopAt, ↓e_SetAt, ↓e_Sl, ↓e_NoP, ↓e_P, ↓e_Aug, ↓e_SrtSet, optP_some, vaP_val, boP_val, inP_val, muP_lst, vals_nil, vals_cons, brP_t, brP_f, brP_d, brP_n, scrOf, rg1, rg2, lstAt, lsOf, nt_of, nt_0, nt_1, slotR, slNew, slMu, slOf, setAll, Dl.En.set, Dl.En.wipe, wipeL, noMu_n, noMu_c, isMu_v, isMu_u, isMu_e, isMu_s, tg_nm, Dl.tg_tup, tgs_nil, tgs_cons, fSl, Rv.d, Rv.m, muD, rvDs, obAt, rvOb, obget_s, obget_e, obput_s, obput_e, put_nil, put_one, conv, argOf, argSlot, argExt, obsMu, seqD, env0, argSl, p_mul, p_mod, p_div, p_pow, p_catT, p_catL, p_maxI, p_minI, List.map_cons, List.map_nil, List.replicate_succ, List.replicate_zero, List.length_cons, List.length_nil, List.nil_append, List.cons_append, List.append_nil, List.getElem?_cons_zero, List.getElem?_cons_succ, List.getElem?_nil, List.set_cons_zero, List.set_cons_succ, List.set_nil, Option.bind_some, Option.bind_none, Option.map_some, Option.map_none, Option.some.injEq, Option.isSome_some, List.all_cons, List.all_nil, List.contains_nil, Bool.and_true, Bool.not_false, Bool.true_and, Rv.val.injEq, PyData.int.injEq, PyData.bool.injEq, PyData.tuple.injEq, PyData.list.injEq, and_assoc, Prod.mk.injEq, reduceCtorEq, Mu.lst.injEq, Int.reducePow, Int.reduceNeg, Int.reduceLT, Int.reduceLE, Int.reduceMul, Int.reduceAdd, Int.reduceSub, Int.reduceToNat, Nat.reduceLT, Nat.reduceLeDiff, Nat.zero_le, or_true, true_or, and_self, not_false_eq_true, forall_const, implies_true, if_true_left, false_or, or_false, p_oD, cut2m, List.all_cons, not_true_eq_false, false_implies, isi_bi, isi_bn, isi_bb, isi_bt, isi_bs, isi_ti, isi_tn, isi_tb, isi_tt, isi_ts, isi_si, isi_sn, isi_sb, isi_st, isi_ss, isi_ii, isi_in, isi_ib, isi_it, isi_is, x_add, x_sub, x_neg, x_lt, x_le, x_gt, x_ge, x_eqI, x_neI, x_is, x_isNot, x_ixL, x_ixT, x_int, x_abs, x_lenL, x_lenT, x_tupL, x_tupT, x_lstL, x_lstT, x_max2, x_min2, at0, at1, at2, at3, atNat, x_inT, x_inL, x_notInT, x_notInL, x_all, x_any, x_sumI, x_nilI, x_nnilI, x_nnilJ, x_eqT, x_neT, x_eqO, x_eqOI, isNone_oD, oD_n, oD_s, decide_eq_true_eq, decide_eq_false_iff_not, true_and, and_true, Nat.sub_self, Nat.reduceSub, Nat.reduceAdd, ite_true, Option.some_inj, eq_self, isNone, Bool.not_true, Int.reduceEq, decide_true, decide_false, exists_eq_left', exists_eq_left, dl_1, dl_2, eq_nn, ne_nn, rgD_hs, Int.toNat_natCast, List.length_map, cut40]; exact h⟩
    · simp only [↓e_C, ↓e_V, ↓e_Fz, ↓e_Op, ↓e_Un, ↓e_B, ↓e_Chain, ↓e_AndT, ↓e_OrT, ↓e_NotT, ↓e_AndV, ↓e_OrV, ↓e_NotV, ↓e_If, ↓e_Nil, ↓e_Cons, ↓e_Tup, ↓e_Lst, ↓e_CB, ↓e_CBN, ↓e_Isi, ↓e_TupRg1, ↓e_LstRg1, ↓e_TupRg2, ↓e_LstRg2, ↓e_ScrLen, ↓e_ScrAt, ↓e_SeqI, ↓e_Enum, ↓e_Rng1, ↓e_Rng2, ↓e_Seq, ↓e_Next, ↓e_Break, ↓e_Cont, ↓e_Drop, ↓e_Ret, ↓e_RetN, ↓e_Ret0, ↓e_IfS, ↓e_Asg, ↓e_AsgN, ↓e_AsgLc, ↓e_mNil, ↓e_mVal, ↓e_mNew, ↓e_Par, ↓e_For, ↓e_LoopN, ↓e_LoopC, ↓e_Lc, ↓e_Yes, ↓e_Call, ↓e_CallN, ↓e_Append, ↓e_Extend, ↓e_Pop, ↓e_PopAt, ↓e_SetAt, ↓e_Sl, ↓e_NoP, ↓e_P, ↓e_Aug, ↓e_SrtSet, optP_some, vaP_val, boP_val, inP_val, muP_lst, vals_nil, vals_cons, brP_t, brP_f, brP_d, brP_n, scrOf, rg1, rg2, lstAt, lsOf, nt_of, nt_0, nt_1, slotR, slNew, slMu, slOf, setAll, Dl.En.set, Dl.En.wipe, wipeL, noMu_n, noMu_c, isMu_v, isMu_u, isMu_e, isMu_s, tg_nm, Dl.tg_tup, tgs_nil, tgs_cons, fSl, Rv.d, Rv.m, muD, rvDs, obAt, rvOb, obget_s, obget_e, obput_s, obput_e, put_nil, put_one, conv, argOf, argSlot, argExt, obsMu, seqD, env0, argSl, p_mul, p_mod, p_div, p_pow, p_catT, p_catL, p_maxI, p_minI, List.map_cons, List.map_nil, List.replicate_succ, List.replicate_zero, List.length_cons, List.length_nil, List.nil_append, List.cons_append, List.append_nil, List.getElem?_cons_zero, List.getElem?_cons_succ, List.getElem?_nil, List.set_cons_zero, List.set_cons_succ, List.set_nil, Option.bind_some, Option.bind_none, Option.map_some, Option.map_none, Option.some.injEq, Option.isSome_some, List.all_cons, List.all_nil, List.contains_nil, Bool.and_true, Bool.not_false, Bool.true_and, Rv.val.injEq, PyData.int.injEq, PyData.bool.injEq, PyData.tuple.injEq, PyData.list.injEq, and_assoc, Prod.mk.injEq, reduceCtorEq, Mu.lst.injEq, Int.reducePow, Int.reduceNeg, Int.reduceLT, Int.reduceLE, Int.reduceMul, Int.reduceAdd, Int.reduceSub, Int.reduceToNat, Nat.reduceLT, Nat.reduceLeDiff, Nat.zero_le, or_true, true_or, and_self, not_false_eq_true, forall_const, implies_true, if_true_left, false_or, or_false, p_oD, cut2m, List.all_cons, not_true_eq_false, false_implies, isi_bi, isi_bn, isi_bb, isi_bt, isi_bs, isi_ti, isi_tn, isi_tb, isi_tt, isi_ts, isi_si, isi_sn, isi_sb, isi_st, isi_ss, isi_ii, isi_in, isi_ib, isi_it, isi_is, x_add, x_sub, x_neg, x_lt, x_le, x_gt, x_ge, x_eqI, x_neI, x_is, x_isNot, x_ixL, x_ixT, x_int, x_abs, x_lenL, x_lenT, x_tupL, x_tupT, x_lstL, x_lstT, x_max2, x_min2, at0, at1, at2, at3, atNat, x_inT, x_inL, x_notInT, x_notInL, x_all, x_any, x_sumI, x_nilI, x_nnilI, x_nnilJ, x_eqT, x_neT, x_eqO, x_eqOI, isNone_oD, oD_n, oD_s, decide_eq_true_eq, decide_eq_false_iff_not, true_and, and_true, Nat.sub_self, Nat.reduceSub, Nat.reduceAdd, ite_true, Option.some_inj, eq_self, isNone, Bool.not_true, Int.reduceEq, decide_true, decide_false, exists_eq_left', exists_eq_left, dl_1, dl_2, eq_nn, ne_nn, rgD_hs, Int.toNat_natCast, List.length_map, cut40]
      exact h
    · simp only [↓e_C, ↓e_V, ↓e_Fz, ↓e_Op, ↓e_Un, ↓e_B, ↓e_Chain, ↓e_AndT, ↓e_OrT, ↓e_NotT, ↓e_AndV, ↓e_OrV, ↓e_NotV, ↓e_If, ↓e_Nil, ↓e_Cons, ↓e_Tup, ↓e_Lst, ↓e_CB, ↓e_CBN, ↓e_Isi, ↓e_TupRg1, ↓e_LstRg1, ↓e_TupRg2, ↓e_LstRg2, ↓e_ScrLen, ↓e_ScrAt, ↓e_SeqI, ↓e_Enum, ↓e_Rng1, ↓e_Rng2, ↓e_Seq, ↓e_Next, ↓e_Break, ↓e_Cont, ↓e_Drop, ↓e_Ret, ↓e_RetN, ↓e_Ret0, ↓e_IfS, ↓e_Asg, ↓e_AsgN, ↓e_AsgLc, ↓e_mNil, ↓e_mVal, ↓e_mNew, ↓e_Par, ↓e_For, ↓e_LoopN, ↓e_LoopC, ↓e_Lc, ↓e_Yes, ↓e_Call, ↓e_CallN, ↓e_Append, ↓e_Extend, ↓e_Pop, ↓e_PopAt, ↓e_SetAt, ↓e_Sl, ↓e_NoP, ↓e_P, ↓e_Aug, ↓e_SrtSet, optP_some, vaP_val, boP_val, inP_val, muP_lst, vals_nil, vals_cons, brP_t, brP_f, brP_d, brP_n, scrOf, rg1, rg2, lstAt, lsOf, nt_of, nt_0, nt_1, slotR, slNew, slMu, slOf, setAll, Dl.En.set, Dl.En.wipe, wipeL, noMu_n, noMu_c, isMu_v, isMu_u, isMu_e, isMu_s, tg_nm, Dl.tg_tup, tgs_nil, tgs_cons, fSl, Rv.d, Rv.m, muD, rvDs, obAt, rvOb, obget_s, obget_e, obput_s, obput_e, put_nil, put_one, conv, argOf, argSlot, argExt, obsMu, seqD, env0, argSl, p_mul, p_mod, p_div, p_pow, p_catT, p_catL, p_maxI, p_minI, List.map_cons, List.map_nil, List.replicate_succ, List.replicate_zero, List.length_cons, List.length_nil, List.nil_append, List.cons_append, List.append_nil, List.getElem?_cons_zero, List.getElem?_cons_succ, List.getElem?_nil, List.set_cons_zero, List.set_cons_succ, List.set_nil, Option.bind_some, Option.bind_none, Option.map_some, Option.map_none, Option.some.injEq, Option.isSome_some, List.all_cons, List.all_nil, List.contains_nil, Bool.and_true, Bool.not_false, Bool.true_and, Rv.val.injEq, PyData.int.injEq, PyData.bool.injEq, PyData.tuple.injEq, PyData.list.injEq, and_assoc, Prod.mk.injEq, reduceCtorEq, Mu.lst.injEq, Int.reducePow, Int.reduceNeg, Int.reduceLT, Int.reduceLE, Int.reduceMul, Int.reduceAdd, Int.reduceSub, Int.reduceToNat, Nat.reduceLT, Nat.reduceLeDiff, Nat.zero_le, or_true, true_or, and_self, not_false_eq_true, forall_const, implies_true, if_true_left, false_or, or_false, p_oD, cut2m, List.all_cons, not_true_eq_false, false_implies, isi_bi, isi_bn, isi_bb, isi_bt, isi_bs, isi_ti, isi_tn, isi_tb, isi_tt, isi_ts, isi_si, isi_sn, isi_sb, isi_st, isi_ss, isi_ii, isi_in, isi_ib, isi_it, isi_is, x_add, x_sub, x_neg, x_lt, x_le, x_gt, x_ge, x_eqI, x_neI, x_is, x_isNot, x_ixL, x_ixT, x_int, x_abs, x_lenL, x_lenT, x_tupL, x_tupT, x_lstL, x_lstT, x_max2, x_min2, at0, at1, at2, at3, atNat, x_inT, x_inL, x_notInT, x_notInL, x_all, x_any, x_sumI, x_nilI, x_nnilI, x_nnilJ, x_eqT, x_neT, x_eqO, x_eqOI, isNone_oD, oD_n, oD_s, decide_eq_true_eq, decide_eq_false_iff_not, true_and, and_true, Nat.sub_self, Nat.reduceSub, Nat.reduceAdd, ite_true, Option.some_inj, eq_self, isNone, Bool.not_true, Int.reduceEq, decide_true, decide_false, exists_eq_left', exists_eq_left, dl_1, dl_2, eq_nn, ne_nn, rgD_hs, Int.toNat_natCast, List.length_map, cut40]
      exact h
  · simp only [↓e_C, ↓e_V, ↓e_Fz, ↓e_Op, ↓e_Un, ↓e_B, ↓e_Chain, ↓e_AndT, ↓e_OrT, ↓e_NotT, ↓e_AndV, ↓e_OrV, ↓e_NotV, ↓e_If, ↓e_Nil, ↓e_Cons, ↓e_Tup, ↓e_Lst, ↓e_CB, ↓e_CBN, ↓e_Isi, ↓e_TupRg1, ↓e_LstRg1, ↓e_TupRg2, ↓e_LstRg2, ↓e_ScrLen, ↓e_ScrAt, ↓e_SeqI, ↓e_Enum, ↓e_Rng1, ↓e_Rng2, ↓e_Seq, ↓e_Next, ↓e_Break, ↓e_Cont, ↓e_Drop, ↓e_Ret, ↓e_RetN, ↓e_Ret0, ↓e_IfS, ↓e_Asg, ↓e_AsgN, ↓e_AsgLc, ↓e_mNil, ↓e_mVal, ↓e_mNew, ↓e_Par, ↓e_For, ↓e_LoopN, ↓e_LoopC, ↓e_Lc, ↓e_Yes, ↓e_Call, ↓e_CallN, ↓e_Append, ↓e_Extend, ↓e_Pop, ↓e_PopAt, ↓e_SetAt, ↓e_Sl, ↓e_NoP, ↓e_P, ↓e_Aug, ↓e_SrtSet, optP_some, vaP_val, boP_val, inP_val, muP_lst, vals_nil, vals_cons, brP_t, brP_f, brP_d, brP_n, scrOf, rg1, rg2, lstAt, lsOf, nt_of, nt_0, nt_1, slotR, slNew, slMu, slOf, setAll, Dl.En.set, Dl.En.wipe, wipeL, noMu_n, noMu_c, isMu_v, isMu_u, isMu_e, isMu_s, tg_nm, Dl.tg_tup, tgs_nil, tgs_cons, fSl, Rv.d, Rv.m, muD, rvDs, obAt, rvOb, obget_s, obget_e, obput_s, obput_e, put_nil, put_one, conv, argOf, argSlot, argExt, obsMu, seqD, env0, argSl, p_mul, p_mod, p_div, p_pow, p_catT, p_catL, p_maxI, p_minI, List.map_cons, List.map_nil, List.replicate_succ, List.replicate_zero, List.length_cons, List.length_nil, List.nil_append, List.cons_append, List.append_nil, List.getElem?_cons_zero, List.getElem?_cons_succ, List.getElem?_nil, List.set_cons_zero, List.set_cons_succ, List.set_nil, Option.bind_some, Option.bind_none, Option.map_some, Option.map_none, Option.some.injEq, Option.isSome_some, List.all_cons, List.all_nil, List.contains_nil, Bool.and_true, Bool.not_false, Bool.true_and, Rv.val.injEq, PyData.int.injEq, PyData.bool.injEq, PyData.tuple.injEq, PyData.list.injEq, and_assoc, Prod.mk.injEq, reduceCtorEq, Mu.lst.injEq, Int.reducePow, Int.reduceNeg, Int.reduceLT, Int.reduceLE, Int.reduceMul, Int.reduceAdd, Int.reduceSub, Int.reduceToNat, Nat.reduceLT, Nat.reduceLeDiff, Nat.zero_le, or_true, true_or, and_self, not_false_eq_true, forall_const, implies_true, if_true_left, false_or, or_false, p_oD, cut2m, List.all_cons, not_true_eq_false, false_implies, isi_bi, isi_bn, isi_bb, isi_bt, isi_bs, isi_ti, isi_tn, isi_tb, isi_tt, isi_ts, isi_si, isi_sn, isi_sb, isi_st, isi_ss, isi_ii, isi_in, isi_ib, isi_it, isi_is, x_add, x_sub, x_neg, x_lt, x_le, x_gt, x_ge, x_eqI, x_neI, x_is, x_isNot, x_ixL, x_ixT, x_int, x_abs, x_lenL, x_lenT, x_tupL, x_tupT, x_lstL, x_lstT, x_max2, x_min2, at0, at1, at2, at3, atNat, x_inT, x_inL, x_notInT, x_notInL, x_all, x_any, x_sumI, x_nilI, x_nnilI, x_nnilJ, x_eqT, x_neT, x_eqO, x_eqOI, isNone_oD, oD_n, oD_s, decide_eq_true_eq, decide_eq_false_iff_not, true_and, and_true, Nat.sub_self, Nat.reduceSub, Nat.reduceAdd, ite_true, Option.some_inj, eq_self, isNone, Bool.not_true, Int.reduceEq, decide_true, decide_false, exists_eq_left', exists_eq_left, dl_1, dl_2, eq_nn, ne_nn, rgD_hs, Int.toNat_natCast, List.length_map, cut40]
    exact h
  · simp only [↓e_C, ↓e_V, ↓e_Fz, ↓e_Op, ↓e_Un, ↓e_B, ↓e_Chain, ↓e_AndT, ↓e_OrT, ↓e_NotT, ↓e_AndV, ↓e_OrV, ↓e_NotV, ↓e_If, ↓e_Nil, ↓e_Cons, ↓e_Tup, ↓e_Lst, ↓e_CB, ↓e_CBN, ↓e_Isi, ↓e_TupRg1, ↓e_LstRg1, ↓e_TupRg2, ↓e_LstRg2, ↓e_ScrLen, ↓e_ScrAt, ↓e_SeqI, ↓e_Enum, ↓e_Rng1, ↓e_Rng2, ↓e_Seq, ↓e_Next, ↓e_Break, ↓e_Cont, ↓e_Drop, ↓e_Ret, ↓e_RetN, ↓e_Ret0, ↓e_IfS, ↓e_Asg, ↓e_AsgN, ↓e_AsgLc, ↓e_mNil, ↓e_mVal, ↓e_mNew, ↓e_Par, ↓e_For, ↓e_LoopN, ↓e_LoopC, ↓e_Lc, ↓e_Yes, ↓e_Call, ↓e_CallN, ↓e_Append, ↓e_Extend, ↓e_Pop, ↓e_PopAt, ↓e_SetAt, ↓e_Sl, ↓e_NoP, ↓e_P, ↓e_Aug, ↓e_SrtSet, optP_some, vaP_val, boP_val, inP_val, muP_lst, vals_nil, vals_cons, brP_t, brP_f, brP_d, brP_n, scrOf, rg1, rg2, lstAt, lsOf, nt_of, nt_0, nt_1, slotR, slNew, slMu, slOf, setAll, Dl.En.set, Dl.En.wipe, wipeL, noMu_n, noMu_c, isMu_v, isMu_u, isMu_e, isMu_s, tg_nm, Dl.tg_tup, tgs_nil, tgs_cons, fSl, Rv.d, Rv.m, muD, rvDs, obAt, rvOb, obget_s, obget_e, obput_s, obput_e, put_nil, put_one, conv, argOf, argSlot, argExt, obsMu, seqD, env0, argSl, p_mul, p_mod, p_div, p_pow, p_catT, p_catL, p_maxI, p_minI, List.map_cons, List.map_nil, List.replicate_succ, List.replicate_zero, List.length_cons, List.length_nil, List.nil_append, List.cons_append, List.append_nil, List.getElem?_cons_zero, List.getElem?_cons_succ, List.getElem?_nil, List.set_cons_zero, List.set_cons_succ, List.set_nil, Option.bind_some, Option.bind_none, Option.map_some, Option.map_none, Option.some.injEq, Option.isSome_some, List.all_cons, List.all_nil, List.contains_nil, Bool.and_true, Bool.not_false, Bool.true_and, Rv.val.injEq, PyData.int.injEq, PyData.bool.injEq, PyData.tuple.injEq, PyData.list.injEq, and_assoc, Prod.mk.injEq, reduceCtorEq, Mu.lst.injEq, Int.reducePow, Int.reduceNeg, Int.reduceLT, Int.reduceLE, Int.reduceMul, Int.reduceAdd, Int.reduceSub, Int.reduceToNat, Nat.reduceLT, Nat.reduceLeDiff, Nat.zero_le, or_true, true_or, and_self, not_false_eq_true, forall_const, implies_true, if_true_left, false_or, or_false, p_oD, cut2m, List.all_cons, not_true_eq_false, false_implies, isi_bi, isi_bn, isi_bb, isi_bt, isi_bs, isi_ti, isi_tn, isi_tb, isi_tt, isi_ts, isi_si, isi_sn, isi_sb, isi_st, isi_ss, isi_ii, isi_in, isi_ib, isi_it, isi_is, x_add, x_sub, x_neg, x_lt, x_le, x_gt, x_ge, x_eqI, x_neI, x_is, x_isNot, x_ixL, x_ixT, x_int, x_abs, x_lenL, x_lenT, x_tupL, x_tupT, x_lstL, x_lstT, x_max2, x_min2, at0, at1, at2, at3, atNat, x_inT, x_inL, x_notInT, x_notInL, x_all, x_any, x_sumI, x_nilI, x_nnilI, x_nnilJ, x_eqT, x_neT, x_eqO, x_eqOI, isNone_oD, oD_n, oD_s, decide_eq_true_eq, decide_eq_false_iff_not, true_and, and_true, Nat.sub_self, Nat.reduceSub, Nat.reduceAdd, ite_true, Option.some_inj, eq_self, isNone, Bool.not_true, Int.reduceEq, decide_true, decide_false, exists_eq_left', exists_eq_left, dl_1, dl_2, eq_nn, ne_nn, rgD_hs, Int.toNat_natCast, List.length_map, cut40]
    exact q out ho
/-! sublists of one list without doubles -/
theorem sub_of_subset {hs : List Int} (hn : hs.Nodup) : ∀ {a b : List Int}, a.Sublist hs → b.Sublist hs → (∀ x ∈ a, x ∈ b) → a.Sublist b := by
  induction hs with
  | nil => intro a b ha hb hs; cases ha; exact List.nil_sublist _
  | cons x t ih =>
    obtain ⟨h1, h2⟩ := List.nodup_cons.mp hn
    intro a b ha hb hs
    cases ha with
    | cons _ ha =>
      cases hb with
      | cons _ hb => exact ih h2 ha hb hs
      | cons_cons _ hb =>
        refine (ih h2 ha hb fun y hy => ?_).cons _
        rcases List.mem_cons.mp (hs y hy) with rfl | z
        · exact absurd (ha.subset hy) h1
        · exact z
    | cons_cons _ ha =>
      cases hb with
      | cons _ hb => exact absurd (hb.subset (hs x List.mem_cons_self)) h1
      | cons_cons _ hb =>
        refine (ih h2 ha hb fun y hy => ?_).cons_cons _
        rcases List.mem_cons.mp (hs y (List.mem_cons_of_mem _ hy)) with rfl | z
        · exact absurd (ha.subset hy) h1
        · exact z
theorem within_iff {a b : List Int} : within a b = true ↔ ∀ x ∈ a, x ∈ b := by
  unfold within
  rw [List.all_eq_true]
  simp
/-- one of them is longest -/
theorem longest : ∀ {l : List (List Int)}, l ≠ [] → ∃ a ∈ l, ∀ b ∈ l, b.length ≤ a.length
  | [a], _ => ⟨a, List.mem_cons_self, fun b hb => by rw [List.mem_singleton.mp hb]; exact Nat.le_refl _⟩
  | x :: y :: l, _ => by
    obtain ⟨a, h1, h2⟩ := longest (l := y :: l) (by simp)
    by_cases h : a.length ≤ x.length
    · refine ⟨x, List.mem_cons_self, fun b hb => ?_⟩
      rcases List.mem_cons.mp hb with rfl | hb
      · exact Nat.le_refl _
      · exact Nat.le_trans (h2 b hb) h
    · refine ⟨a, List.mem_cons_of_mem _ h1, fun b hb => ?_⟩
      rcases List.mem_cons.mp hb with rfl | hb
      · omega
      · exact h2 b hb
theorem greatest_ne {hs : List Int} {out : List (List Int)} (hn : hs.Nodup) (h0 : out ≠ []) (hsub : ∀ l ∈ out, l.Sublist hs) : greatest out ≠ [] := by
  obtain ⟨a, h1, h2⟩ := longest h0
  have : a ∈ greatest out := by
    refine List.mem_filter.mpr ⟨h1, ?_⟩
    rw [fil_empty, List.all_eq_true]
    intro b hb
    by_cases e : a = b
    · simp [e]
    · simp only [e, decide_false, Bool.not_false, Bool.true_and, Bool.not_eq_true']
      refine Bool.eq_false_iff.mpr fun hw => e ?_
      exact (sub_of_subset hn (hsub a h1) (hsub b hb) (within_iff.mp hw)).eq_of_length_le (h2 b hb)
  intro z
  rw [z] at this; cases this
theorem greatest_sub {out : List (List Int)} {l : List Int} (h : l ∈ greatest out) : l ∈ out := (List.mem_filter.mp h).1
/-! ### families -/
/-- what every drawn family is -/
structure LiOk (m : Nat) (f : List (List Int)) : Prop where
  ne : f ≠ []
  few : f.length < 64
  sub : ∀ l ∈ f, l.Sublist (hsI m)
def T__law_liars : DSp where
  run := fun args xt Q => ∃ m : Nat, args = [.ext 0, .val (.int m)] ∧ 1 ≤ m ∧ m ≤ 12 ∧ Bx xt ∧ ∀ f xt', LiOk m f → Bx xt' → Q (.val (tF f)) xt'
  mono := fun k ⟨m, e, h1, h2, b, q⟩ => ⟨m, e, h1, h2, b, fun f xt' a c => k _ _ (q f xt' a c)⟩
def r__law_liars : RS := dSeq (dAsg (dTup (dCons (dTupRg1 (dV 1)) (dCons (dCall T__law_take 2 [true, false] (dCons (dV 0) (dCons (dC (.int 8)) dNil))) dNil))) (.tup [.nm 2, .nm 3])) (dSeq (dIfS (dB (dOp fEq (dV 3) (dC (.int 0)))) (dRet (dTup (dCons (dTup dNil) dNil))) dNext) (dSeq (dIfS (dB (dOp fLt (dV 3) (dC (.int 3)))) (dSeq (dAsg (dCall T__law_take 2 [true, false] (dCons (dV 0) (dCons (dOp fAdd (dV 1) (dC (.int 1))) dNil))) (.nm 4)) (dSeq (dAsg (dFz (dLst (dCons (dTup dNil) dNil))) (.nm 5)) (dSeq (dFor (dSeqI (dV 2)) (.nm 6) (dAsg (dOp fAdd (dV 5) (dFz (dLc (dSeqI (dV 5)) (.nm 8) (dB (dOp fLt (dCB fLen (dCons (dV 8) dNil)) (dV 4))) (dOp fAdd (dV 8) (dTup (dCons (dV 6) dNil))) [8]))) (.nm 5))) (dRet (dCall T__law_greatest 1 [false] (dCons (dSl (dFz (dLc (dSeqI (dV 5)) (.nm 8) (dB (dOp fEq (dCB fLen (dCons (dV 8) dNil)) (dV 4))) (dV 8) [8])) dNoP (dP (dC (.int 40)))) dNil)))))) dNext) (dSeq (dAsgLc 7 (dLc (dRng1 (dCons (dOp fAdd (dC (.int 1)) (dCall T__law_take 2 [true, false] (dCons (dV 0) (dCons (dC (.int 5)) dNil)))) dNil)) (.nm 9) dYes (dCall T__law_drawn_lot 3 [true, false, false] (dCons (dV 0) (dCons (dV 2) (dCons (dCall T__law_pick 2 [true, false] (dCons (dV 0) (dCons (dFz (dLst (dCons (dC (.int 2)) (dCons (dC (.int 3)) (dCons (dC (.int 4)) dNil))))) dNil))) dNil)))) [9])) (dRet (dCall T__law_greatest 1 [false] (dCons (dV 7) dNil))))))
theorem LiOk.of {m : Nat} {kss out : List (List Int)} (h : SSet kss out) (h0 : kss ≠ []) (h1 : kss.length < 64) (hs : ∀ l ∈ kss, l.Sublist (hsI m)) : LiOk m (greatest out) where
  ne := greatest_ne (hs_nodup m) (fun z => by
    cases kss with
    | nil => exact h0 rfl
    | cons k kss => have := (h.mem k).mpr List.mem_cons_self; rw [z] at this; cases this) fun l hl => hs l ((h.mem l).mp hl)
  few := Nat.lt_of_le_of_lt (Nat.le_trans (List.length_filter_le _ _) h.len) h1
  sub := fun l hl => hs l ((h.mem l).mp (greatest_sub hl))
theorem sub_len {m : Nat} {l : List Int} (h : l.Sublist (hsI m)) : l.length ≤ m := by have := h.length_le; rwa [hs_len] at this
structure FInv (size : Int) (done : List Int) (found : List (List Int)) : Prop where
  few : found.length ≤ 2 ^ done.length
  sub : ∀ l ∈ found, l.Sublist done
  one : ∃ l ∈ found, (l.length : Int) = min size done.length
theorem FInv.step {size : Int} {done : List Int} {found : List (List Int)} (h : FInv size done found) (x : Int) : FInv size (done ++ [x]) (found ++ (found.filter fun l => decide ((l.length : Int) < size)).map fun l => l ++ [x]) where
  few := by
    rw [List.length_append, List.length_map, List.length_append, List.length_singleton, Nat.pow_succ]
    have := List.length_filter_le (fun l : List Int => decide ((l.length : Int) < size)) found
    have := h.few
    omega
  sub := fun l hl => by
    rcases List.mem_append.mp hl with hl | hl
    · exact (h.sub l hl).trans (List.sublist_append_left _ _)
    · obtain ⟨k, hk, rfl⟩ := List.mem_map.mp hl
      exact (h.sub k (List.mem_filter.mp hk).1).append (List.Sublist.refl _)
  one := by
    obtain ⟨l, hl, e⟩ := h.one
    rw [List.length_append, List.length_singleton]
    by_cases c : (l.length : Int) < size
    · refine ⟨l ++ [x], List.mem_append_right _ (List.mem_map.mpr ⟨l, List.mem_filter.mpr ⟨hl, decide_eq_true c⟩, rfl⟩), ?_⟩
      rw [List.length_append, List.length_singleton]
      omega
    · exact ⟨l, List.mem_append_left _ hl, by omega⟩
theorem tI_app (l : List Int) (x : Int) : PyData.tuple (l.map PyData.int ++ [.int x]) = tI (l ++ [x]) := by simp [tI]
theorem pure__law_liars : PureOk T__law_liars 2 10 r__law_liars := by
  rintro _ xt Q _ ⟨m, rfl, h1, h2, ⟨g, r, rfl⟩, q⟩
  unfold r__law_liars
  simp only [↓e_C, ↓e_V, ↓e_Fz, ↓e_Op, ↓e_Un, ↓e_B, ↓e_Chain, ↓e_AndT, ↓e_OrT, ↓e_NotT, ↓e_AndV, ↓e_OrV, ↓e_NotV, ↓e_If, ↓e_Nil, ↓e_Cons, ↓e_Tup, ↓e_Lst, ↓e_CB, ↓e_CBN, ↓e_Isi, ↓e_TupRg1, ↓e_LstRg1, ↓e_TupRg2, ↓e_LstRg2, ↓e_ScrLen, ↓e_ScrAt, ↓e_SeqI, ↓e_Enum, ↓e_Rng1, ↓e_Rng2, ↓e_Seq, ↓e_Next, ↓e_Break, ↓e_Cont, ↓e_Drop, ↓e_Ret, ↓e_RetN, ↓e_Ret0, ↓e_IfS, ↓e_Asg, ↓e_AsgN, ↓e_AsgLc, ↓e_mNil, ↓e_mVal, ↓e_mNew, ↓e_Par, ↓e_For, ↓e_LoopN, ↓e_LoopC, ↓e_Lc, ↓e_Yes, ↓e_Call, ↓e_CallN, ↓e_Append, ↓e_Extend, ↓e_Pop, ↓e_PopAt, ↓e_SetAt, ↓e_Sl, ↓e_NoP, ↓e_P, ↓e_Aug, ↓e_SrtSet, optP_some, vaP_val, boP_val, inP_val, muP_lst, vals_nil, vals_cons, brP_t, brP_f, brP_d, brP_n, scrOf, rg1, rg2, lstAt, lsOf, nt_of, nt_0, nt_1, slotR, slNew, slMu, slOf, setAll, Dl.En.set, Dl.En.wipe, wipeL, noMu_n, noMu_c, isMu_v, isMu_u, isMu_e, isMu_s, tg_nm, Dl.tg_tup, tgs_nil, tgs_cons, fSl, Rv.d, Rv.m, muD, rvDs, obAt, rvOb, obget_s, obget_e, obput_s, obput_e, put_nil, put_one, conv, argOf, argSlot, argExt, obsMu, seqD, env0, argSl, p_mul, p_mod, p_div, p_pow, p_catT, p_catL, p_maxI, p_minI, List.map_cons, List.map_nil, List.replicate_succ, List.replicate_zero, List.length_cons, List.length_nil, List.nil_append, List.cons_append, List.append_nil, List.getElem?_cons_zero, List.getElem?_cons_succ, List.getElem?_nil, List.set_cons_zero, List.set_cons_succ, List.set_nil, Option.bind_some, Option.bind_none, Option.map_some, Option.map_none, Option.some.injEq, Option.isSome_some, List.all_cons, List.all_nil, List.contains_nil, Bool.and_true, Bool.not_false, Bool.true_and, Rv.val.injEq, PyData.int.injEq, PyData.bool.injEq, PyData.tuple.injEq, PyData.list.injEq, and_assoc, Prod.mk.injEq, reduceCtorEq, Mu.lst.injEq, Int.reducePow, Int.reduceNeg, Int.reduceLT, Int.reduceLE, Int.reduceMul, Int.reduceAdd, Int.reduceSub, Int.reduceToNat, Nat.reduceLT, Nat.reduceLeDiff, Nat.zero_le, or_true, true_or, and_self, not_false_eq_true, forall_const, implies_true, if_true_left, false_or, or_false, p_oD, cut2m, List.all_cons, not_true_eq_false, false_implies, isi_bi, isi_bn, isi_bb, isi_bt, isi_bs, isi_ti, isi_tn, isi_tb, isi_tt, isi_ts, isi_si, isi_sn, isi_sb, isi_st, isi_ss, isi_ii, isi_in, isi_ib, isi_it, isi_is, x_add, x_sub, x_neg, x_lt, x_le, x_gt, x_ge, x_eqI, x_neI, x_is, x_isNot, x_ixL, x_ixT, x_int, x_abs, x_lenL, x_lenT, x_tupL, x_tupT, x_lstL, x_lstT, x_max2, x_min2, at0, at1, at2, at3, atNat, x_inT, x_inL, x_notInT, x_notInL, x_all, x_any, x_sumI, x_nilI, x_nnilI, x_nnilJ, x_eqT, x_neT, x_eqO, x_eqOI, isNone_oD, oD_n, oD_s, decide_eq_true_eq, decide_eq_false_iff_not, true_and, and_true, Nat.sub_self, Nat.reduceSub, Nat.reduceAdd, ite_true, Option.some_inj, eq_self, isNone, Bool.not_true, Int.reduceEq, decide_true, decide_false, exists_eq_left', exists_eq_left, dl_1, dl_2, eq_nn, ne_nn, rgD_hs, Int.toNat_natCast, List.length_map, cut40]
  refine ⟨by omega, by omega, box_take (by omega) (by omega) fun way g r w0 w1 => ?_⟩
  simp only [↓e_C, ↓e_V, ↓e_Fz, ↓e_Op, ↓e_Un, ↓e_B, ↓e_Chain, ↓e_AndT, ↓e_OrT, ↓e_NotT, ↓e_AndV, ↓e_OrV, ↓e_NotV, ↓e_If, ↓e_Nil, ↓e_Cons, ↓e_Tup, ↓e_Lst, ↓e_CB, ↓e_CBN, ↓e_Isi, ↓e_TupRg1, ↓e_LstRg1, ↓e_TupRg2, ↓e_LstRg2, ↓e_ScrLen, ↓e_ScrAt, ↓e_SeqI, ↓e_Enum, ↓e_Rng1, ↓e_Rng2, ↓e_Seq, ↓e_Next, ↓e_Break, ↓e_Cont, ↓e_Drop, ↓e_Ret, ↓e_RetN, ↓e_Ret0, ↓e_IfS, ↓e_Asg, ↓e_AsgN, ↓e_AsgLc, ↓e_mNil, ↓e_mVal, ↓e_mNew, ↓e_Par, ↓e_For, ↓e_LoopN, ↓e_LoopC, ↓e_Lc, ↓e_Yes, ↓e_Call, ↓e_CallN, ↓e_Append, ↓e_Extend, ↓e_Pop, ↓e_PopAt, ↓e_SetAt, ↓e_Sl, ↓e_NoP, ↓e_P, ↓e_Aug, ↓e_SrtSet, optP_some, vaP_val, boP_val, inP_val, muP_lst, vals_nil, vals_cons, brP_t, brP_f, brP_d, brP_n, scrOf, rg1, rg2, lstAt, lsOf, nt_of, nt_0, nt_1, slotR, slNew, slMu, slOf, setAll, Dl.En.set, Dl.En.wipe, wipeL, noMu_n, noMu_c, isMu_v, isMu_u, isMu_e, isMu_s, tg_nm, Dl.tg_tup, tgs_nil, tgs_cons, fSl, Rv.d, Rv.m, muD, rvDs, obAt, rvOb, obget_s, obget_e, obput_s, obput_e, put_nil, put_one, conv, argOf, argSlot, argExt, obsMu, seqD, env0, argSl, p_mul, p_mod, p_div, p_pow, p_catT, p_catL, p_maxI, p_minI, List.map_cons, List.map_nil, List.replicate_succ, List.replicate_zero, List.length_cons, List.length_nil, List.nil_append, List.cons_append, List.append_nil, List.getElem?_cons_zero, List.getElem?_cons_succ, List.getElem?_nil, List.set_cons_zero, List.set_cons_succ, List.set_nil, Option.bind_some, Option.bind_none, Option.map_some, Option.map_none, Option.some.injEq, Option.isSome_some, List.all_cons, List.all_nil, List.contains_nil, Bool.and_true, Bool.not_false, Bool.true_and, Rv.val.injEq, PyData.int.injEq, PyData.bool.injEq, PyData.tuple.injEq, PyData.list.injEq, and_assoc, Prod.mk.injEq, reduceCtorEq, Mu.lst.injEq, Int.reducePow, Int.reduceNeg, Int.reduceLT, Int.reduceLE, Int.reduceMul, Int.reduceAdd, Int.reduceSub, Int.reduceToNat, Nat.reduceLT, Nat.reduceLeDiff, Nat.zero_le, or_true, true_or, and_self, not_false_eq_true, forall_const, implies_true, if_true_left, false_or, or_false, p_oD, cut2m, List.all_cons, not_true_eq_false, false_implies, isi_bi, isi_bn, isi_bb, isi_bt, isi_bs, isi_ti, isi_tn, isi_tb, isi_tt, isi_ts, isi_si, isi_sn, isi_sb, isi_st, isi_ss, isi_ii, isi_in, isi_ib, isi_it, isi_is, x_add, x_sub, x_neg, x_lt, x_le, x_gt, x_ge, x_eqI, x_neI, x_is, x_isNot, x_ixL, x_ixT, x_int, x_abs, x_lenL, x_lenT, x_tupL, x_tupT, x_lstL, x_lstT, x_max2, x_min2, at0, at1, at2, at3, atNat, x_inT, x_inL, x_notInT, x_notInL, x_all, x_any, x_sumI, x_nilI, x_nnilI, x_nnilJ, x_eqT, x_neT, x_eqO, x_eqOI, isNone_oD, oD_n, oD_s, decide_eq_true_eq, decide_eq_false_iff_not, true_and, and_true, Nat.sub_self, Nat.reduceSub, Nat.reduceAdd, ite_true, Option.some_inj, eq_self, isNone, Bool.not_true, Int.reduceEq, decide_true, decide_false, exists_eq_left', exists_eq_left, dl_1, dl_2, eq_nn, ne_nn, rgD_hs, Int.toNat_natCast, List.length_map, cut40]
  refine ⟨fun _ => q [[]] _ ⟨by simp, by simp, by simp⟩ ⟨_, _, rfl⟩, fun _ => ⟨fun _ => box_take (by omega) (by omega) fun size g r s0 s1 => ?_, fun _ => ?_⟩⟩
  · simp only [↓e_C, ↓e_V, ↓e_Fz, ↓e_Op, ↓e_Un, ↓e_B, ↓e_Chain, ↓e_AndT, ↓e_OrT, ↓e_NotT, ↓e_AndV, ↓e_OrV, ↓e_NotV, ↓e_If, ↓e_Nil, ↓e_Cons, ↓e_Tup, ↓e_Lst, ↓e_CB, ↓e_CBN, ↓e_Isi, ↓e_TupRg1, ↓e_LstRg1, ↓e_TupRg2, ↓e_LstRg2, ↓e_ScrLen, ↓e_ScrAt, ↓e_SeqI, ↓e_Enum, ↓e_Rng1, ↓e_Rng2, ↓e_Seq, ↓e_Next, ↓e_Break, ↓e_Cont, ↓e_Drop, ↓e_Ret, ↓e_RetN, ↓e_Ret0, ↓e_IfS, ↓e_Asg, ↓e_AsgN, ↓e_AsgLc, ↓e_mNil, ↓e_mVal, ↓e_mNew, ↓e_Par, ↓e_For, ↓e_LoopN, ↓e_LoopC, ↓e_Lc, ↓e_Yes, ↓e_Call, ↓e_CallN, ↓e_Append, ↓e_Extend, ↓e_Pop, ↓e_PopAt, ↓e_SetAt, ↓e_Sl, ↓e_NoP, ↓e_P, ↓e_Aug, ↓e_SrtSet, optP_some, vaP_val, boP_val, inP_val, muP_lst, vals_nil, vals_cons, brP_t, brP_f, brP_d, brP_n, scrOf, rg1, rg2, lstAt, lsOf, nt_of, nt_0, nt_1, slotR, slNew, slMu, slOf, setAll, Dl.En.set, Dl.En.wipe, wipeL, noMu_n, noMu_c, isMu_v, isMu_u, isMu_e, isMu_s, tg_nm, Dl.tg_tup, tgs_nil, tgs_cons, fSl, Rv.d, Rv.m, muD, rvDs, obAt, rvOb, obget_s, obget_e, obput_s, obput_e, put_nil, put_one, conv, argOf, argSlot, argExt, obsMu, seqD, env0, argSl, p_mul, p_mod, p_div, p_pow, p_catT, p_catL, p_maxI, p_minI, List.map_cons, List.map_nil, List.replicate_succ, List.replicate_zero, List.length_cons, List.length_nil, List.nil_append, List.cons_append, List.append_nil, List.getElem?_cons_zero, List.getElem?_cons_succ, List.getElem?_nil, List.set_cons_zero, List.set_cons_succ, List.set_nil, Option.bind_some, Option.bind_none, Option.map_some, Option.map_none, Option.some.injEq, Option.isSome_some, List.all_cons, List.all_nil, List.contains_nil, Bool.and_true, Bool.not_false, Bool.true_and, Rv.val.injEq, PyData.int.injEq, PyData.bool.injEq, PyData.tuple.injEq, PyData.list.injEq, and_assoc, Prod.mk.injEq, reduceCtorEq, Mu.lst.injEq, Int.reducePow, Int.reduceNeg, Int.reduceLT, Int.reduceLE, Int.reduceMul, Int.reduceAdd, Int.reduceSub, Int.reduceToNat, Nat.reduceLT, Nat.reduceLeDiff, Nat.zero_le, or_true, true_or, and_self, not_false_eq_true, forall_const, implies_true, if_true_left, false_or, or_false, p_oD, cut2m, List.all_cons, not_true_eq_false, false_implies, isi_bi, isi_bn, isi_bb, isi_bt, isi_bs, isi_ti, isi_tn, isi_tb, isi_tt, isi_ts, isi_si, isi_sn, isi_sb, isi_st, isi_ss, isi_ii, isi_in, isi_ib, isi_it, isi_is, x_add, x_sub, x_neg, x_lt, x_le, x_gt, x_ge, x_eqI, x_neI, x_is, x_isNot, x_ixL, x_ixT, x_int, x_abs, x_lenL, x_lenT, x_tupL, x_tupT, x_lstL, x_lstT, x_max2, x_min2, at0, at1, at2, at3, atNat, x_inT, x_inL, x_notInT, x_notInL, x_all, x_any, x_sumI, x_nilI, x_nnilI, x_nnilJ, x_eqT, x_neT, x_eqO, x_eqOI, isNone_oD, oD_n, oD_s, decide_eq_true_eq, decide_eq_false_iff_not, true_and, and_true, Nat.sub_self, Nat.reduceSub, Nat.reduceAdd, ite_true, Option.some_inj, eq_self, isNone, Bool.not_true, Int.reduceEq, decide_true, decide_false, exists_eq_left', exists_eq_left, dl_1, dl_2, eq_nn, ne_nn, rgD_hs, Int.toNat_natCast, List.length_map, cut40]
    refine loop_inv (enc := PyData.int) (fun done rest env => ∃ (found : List (List Int)) (s : Sl), done ++ rest = hsI m ∧ FInv size done found ∧ (match s with | .mu _ => False | _ => True) ∧
      env = ⟨[.ext 0, .val (.int m), .val (tI (hsI m)), .val (.int way), .val (.int size), .val (.list (found.map tI)), s, .un, .un, .un], [.lst [.int g, .int r]]⟩) (hsI m) [] _ ?_ ?_ ⟨[[]], .un, rfl, ⟨by simp, by simp, ⟨[], by simp, by simp; omega⟩⟩, trivial, rfl⟩
    · rintro done x rest env ⟨found, s, e1, hI, hs, rfl⟩
      refine ⟨_, by simp only [↓e_C, ↓e_V, ↓e_Fz, ↓e_Op, ↓e_Un, ↓e_B, ↓e_Chain, ↓e_AndT, ↓e_OrT, ↓e_NotT, ↓e_AndV, ↓e_OrV, ↓e_NotV, ↓e_If, ↓e_Nil, ↓e_Cons, ↓e_Tup, ↓e_Lst, ↓e_CB, ↓e_CBN, ↓e_Isi, ↓e_TupRg1, ↓e_LstRg1, ↓e_TupRg2, ↓e_LstRg2, ↓e_ScrLen, ↓e_ScrAt, ↓e_SeqI, ↓e_Enum, ↓e_Rng1, ↓e_Rng2, ↓e_Seq, ↓e_Next, ↓e_Break, ↓e_Cont, ↓e_Drop, ↓e_Ret, ↓e_RetN, ↓e_Ret0, ↓e_IfS, ↓e_Asg, ↓e_AsgN, ↓e_AsgLc, ↓e_mNil, ↓e_mVal, ↓e_mNew, ↓e_Par, ↓e_For, ↓e_LoopN, ↓e_LoopC, ↓e_Lc, ↓e_Yes, ↓e_Call, ↓e_CallN, ↓e_Append, ↓e_Extend, ↓e_Pop, ↓e_PopAt, ↓e_SetAt, ↓e_Sl, ↓e_NoP, ↓e_P, ↓e_Aug, ↓e_SrtSet, optP_some, vaP_val, boP_val, inP_val, muP_lst, vals_nil, vals_cons, brP_t, brP_f, brP_d, brP_n, scrOf, rg1, rg2, lstAt, lsOf, nt_of, nt_0, nt_1, slotR, slNew, slMu, slOf, setAll, Dl.En.set, Dl.En.wipe, wipeL, noMu_n, noMu_c, isMu_v, isMu_u, isMu_e, isMu_s, tg_nm, Dl.tg_tup, tgs_nil, tgs_cons, fSl, Rv.d, Rv.m, muD, rvDs, obAt, rvOb, obget_s, obget_e, obput_s, obput_e, put_nil, put_one, conv, argOf, argSlot, argExt, obsMu, seqD, env0, argSl, p_mul, p_mod, p_div, p_pow, p_catT, p_catL, p_maxI, p_minI, List.map_cons, List.map_nil, List.replicate_succ, List.replicate_zero, List.length_cons, List.length_nil, List.nil_append, List.cons_append, List.append_nil, List.getElem?_cons_zero, List.getElem?_cons_succ, List.getElem?_nil, List.set_cons_zero, List.set_cons_succ, List.set_nil, Option.bind_some, Option.bind_none, Option.map_some, Option.map_none, Option.some.injEq, Option.isSome_some, List.all_cons, List.all_nil, List.contains_nil, Bool.and_true, Bool.not_false, Bool.true_and, Rv.val.injEq, PyData.int.injEq, PyData.bool.injEq, PyData.tuple.injEq, PyData.list.injEq, and_assoc, Prod.mk.injEq, reduceCtorEq, Mu.lst.injEq, Int.reducePow, Int.reduceNeg, Int.reduceLT, Int.reduceLE, Int.reduceMul, Int.reduceAdd, Int.reduceSub, Int.reduceToNat, Nat.reduceLT, Nat.reduceLeDiff, Nat.zero_le, or_true, true_or, and_self, not_false_eq_true, forall_const, implies_true, if_true_left, false_or, or_false, p_oD, cut2m, List.all_cons, not_true_eq_false, false_implies, isi_bi, isi_bn, isi_bb, isi_bt, isi_bs, isi_ti, isi_tn, isi_tb, isi_tt, isi_ts, isi_si, isi_sn, isi_sb, isi_st, isi_ss, isi_ii, isi_in, isi_ib, isi_it, isi_is, x_add, x_sub, x_neg, x_lt, x_le, x_gt, x_ge, x_eqI, x_neI, x_is, x_isNot, x_ixL, x_ixT, x_int, x_abs, x_lenL, x_lenT, x_tupL, x_tupT, x_lstL, x_lstT, x_max2, x_min2, at0, at1, at2, at3, atNat, x_inT, x_inL, x_notInT, x_notInL, x_all, x_any, x_sumI, x_nilI, x_nnilI, x_nnilJ, x_eqT, x_neT, x_eqO, x_eqOI, isNone_oD, oD_n, oD_s, decide_eq_true_eq, decide_eq_false_iff_not, true_and, and_true, Nat.sub_self, Nat.reduceSub, Nat.reduceAdd, ite_true, Option.some_inj, eq_self, isNone, Bool.not_true, Int.reduceEq, decide_true, decide_false, exists_eq_left', exists_eq_left, dl_1, dl_2, eq_nn, ne_nn, rgD_hs, Int.toNat_natCast, List.length_map, cut40]; rfl, fun N hN => ?_⟩
      have hd : done.length + (rest.length + 1) = m := by have := congrArg List.length e1; rwa [hs_len, List.length_append, List.length_cons] at this
      have hp : 2 ^ (done.length + 1) ≤ 2 ^ 12 := Nat.pow_le_pow_right (by decide) (by omega)
      have hf := hI.few
      rw [Nat.pow_succ] at hp
      have hx := List.length_filter_le (fun l : List Int => decide ((l.length : Int) < size)) found
      simp only [↓e_C, ↓e_V, ↓e_Fz, ↓e_Op, ↓e_Un, ↓e_B, ↓e_Chain, ↓e_AndT, ↓e_OrT, ↓e_NotT, ↓e_AndV, ↓e_OrV, ↓e_NotV, ↓e_If, ↓e_Nil, ↓e_Cons, ↓e_Tup, ↓e_Lst, ↓e_CB, ↓e_CBN, ↓e_Isi, ↓e_TupRg1, ↓e_LstRg1, ↓e_TupRg2, ↓e_LstRg2, ↓e_ScrLen, ↓e_ScrAt, ↓e_SeqI, ↓e_Enum, ↓e_Rng1, ↓e_Rng2, ↓e_Seq, ↓e_Next, ↓e_Break, ↓e_Cont, ↓e_Drop, ↓e_Ret, ↓e_RetN, ↓e_Ret0, ↓e_IfS, ↓e_Asg, ↓e_AsgN, ↓e_AsgLc, ↓e_mNil, ↓e_mVal, ↓e_mNew, ↓e_Par, ↓e_For, ↓e_LoopN, ↓e_LoopC, ↓e_Lc, ↓e_Yes, ↓e_Call, ↓e_CallN, ↓e_Append, ↓e_Extend, ↓e_Pop, ↓e_PopAt, ↓e_SetAt, ↓e_Sl, ↓e_NoP, ↓e_P, ↓e_Aug, ↓e_SrtSet, optP_some, vaP_val, boP_val, inP_val, muP_lst, vals_nil, vals_cons, brP_t, brP_f, brP_d, brP_n, scrOf, rg1, rg2, lstAt, lsOf, nt_of, nt_0, nt_1, slotR, slNew, slMu, slOf, setAll, Dl.En.set, Dl.En.wipe, wipeL, noMu_n, noMu_c, isMu_v, isMu_u, isMu_e, isMu_s, tg_nm, Dl.tg_tup, tgs_nil, tgs_cons, fSl, Rv.d, Rv.m, muD, rvDs, obAt, rvOb, obget_s, obget_e, obput_s, obput_e, put_nil, put_one, conv, argOf, argSlot, argExt, obsMu, seqD, env0, argSl, p_mul, p_mod, p_div, p_pow, p_catT, p_catL, p_maxI, p_minI, List.map_cons, List.map_nil, List.replicate_succ, List.replicate_zero, List.length_cons, List.length_nil, List.nil_append, List.cons_append, List.append_nil, List.getElem?_cons_zero, List.getElem?_cons_succ, List.getElem?_nil, List.set_cons_zero, List.set_cons_succ, List.set_nil, Option.bind_some, Option.bind_none, Option.map_some, Option.map_none, Option.some.injEq, Option.isSome_some, List.all_cons, List.all_nil, List.contains_nil, Bool.and_true, Bool.not_false, Bool.true_and, Rv.val.injEq, PyData.int.injEq, PyData.bool.injEq, PyData.tuple.injEq, PyData.list.injEq, and_assoc, Prod.mk.injEq, reduceCtorEq, Mu.lst.injEq, Int.reducePow, Int.reduceNeg, Int.reduceLT, Int.reduceLE, Int.reduceMul, Int.reduceAdd, Int.reduceSub, Int.reduceToNat, Nat.reduceLT, Nat.reduceLeDiff, Nat.zero_le, or_true, true_or, and_self, not_false_eq_true, forall_const, implies_true, if_true_left, false_or, or_false, p_oD, cut2m, List.all_cons, not_true_eq_false, false_implies, isi_bi, isi_bn, isi_bb, isi_bt, isi_bs, isi_ti, isi_tn, isi_tb, isi_tt, isi_ts, isi_si, isi_sn, isi_sb, isi_st, isi_ss, isi_ii, isi_in, isi_ib, isi_it, isi_is, x_add, x_sub, x_neg, x_lt, x_le, x_gt, x_ge, x_eqI, x_neI, x_is, x_isNot, x_ixL, x_ixT, x_int, x_abs, x_lenL, x_lenT, x_tupL, x_tupT, x_lstL, x_lstT, x_max2, x_min2, at0, at1, at2, at3, atNat, x_inT, x_inL, x_notInT, x_notInL, x_all, x_any, x_sumI, x_nilI, x_nnilI, x_nnilJ, x_eqT, x_neT, x_eqO, x_eqOI, isNone_oD, oD_n, oD_s, decide_eq_true_eq, decide_eq_false_iff_not, true_and, and_true, Nat.sub_self, Nat.reduceSub, Nat.reduceAdd, ite_true, Option.some_inj, eq_self, isNone, Bool.not_true, Int.reduceEq, decide_true, decide_false, exists_eq_left', exists_eq_left, dl_1, dl_2, eq_nn, ne_nn, rgD_hs, Int.toNat_natCast, List.length_map, cut40]
      refine lcGo_fil (enc := tI) (fun l => decide ((l.length : Int) < size)) (fun l => tI (l ++ [x])) found (by omega) (fun l hl => ⟨_, rfl, rfl, fun QT h => ?_, fun _ QE h => ?_⟩) ?_
      · simp only [↓e_C, ↓e_V, ↓e_Fz, ↓e_Op, ↓e_Un, ↓e_B, ↓e_Chain, ↓e_AndT, ↓e_OrT, ↓e_NotT, ↓e_AndV, ↓e_OrV, ↓e_NotV, ↓e_If, ↓e_Nil, ↓e_Cons, ↓e_Tup, ↓e_Lst, ↓e_CB, ↓e_CBN, ↓e_Isi, ↓e_TupRg1, ↓e_LstRg1, ↓e_TupRg2, ↓e_LstRg2, ↓e_ScrLen, ↓e_ScrAt, ↓e_SeqI, ↓e_Enum, ↓e_Rng1, ↓e_Rng2, ↓e_Seq, ↓e_Next, ↓e_Break, ↓e_Cont, ↓e_Drop, ↓e_Ret, ↓e_RetN, ↓e_Ret0, ↓e_IfS, ↓e_Asg, ↓e_AsgN, ↓e_AsgLc, ↓e_mNil, ↓e_mVal, ↓e_mNew, ↓e_Par, ↓e_For, ↓e_LoopN, ↓e_LoopC, ↓e_Lc, ↓e_Yes, ↓e_Call, ↓e_CallN, ↓e_Append, ↓e_Extend, ↓e_Pop, ↓e_PopAt, ↓e_SetAt, ↓e_Sl, ↓e_NoP, ↓e_P, ↓e_Aug, ↓e_SrtSet, optP_some, vaP_val, boP_val, inP_val, muP_lst, vals_nil, vals_cons, brP_t, brP_f, brP_d, brP_n, scrOf, rg1, rg2, lstAt, lsOf, nt_of, nt_0, nt_1, slotR, slNew, slMu, slOf, setAll, Dl.En.set, Dl.En.wipe, wipeL, noMu_n, noMu_c, isMu_v, isMu_u, isMu_e, isMu_s, tg_nm, Dl.tg_tup, tgs_nil, tgs_cons, fSl, Rv.d, Rv.m, muD, rvDs, obAt, rvOb, obget_s, obget_e, obput_s, obput_e, put_nil, put_one, conv, argOf, argSlot, argExt, obsMu, seqD, env0, argSl, p_mul, p_mod, p_div, p_pow, p_catT, p_catL, p_maxI, p_minI, List.map_cons, List.map_nil, List.replicate_succ, List.replicate_zero, List.length_cons, List.length_nil, List.nil_append, List.cons_append, List.append_nil, List.getElem?_cons_zero, List.getElem?_cons_succ, List.getElem?_nil, List.set_cons_zero, List.set_cons_succ, List.set_nil, Option.bind_some, Option.bind_none, Option.map_some, Option.map_none, Option.some.injEq, Option.isSome_some, List.all_cons, List.all_nil, List.contains_nil, Bool.and_true, Bool.not_false, Bool.true_and, Rv.val.injEq, PyData.int.injEq, PyData.bool.injEq, PyData.tuple.injEq, PyData.list.injEq, and_assoc, Prod.mk.injEq, reduceCtorEq, Mu.lst.injEq, Int.reducePow, Int.reduceNeg, Int.reduceLT, Int.reduceLE, Int.reduceMul, Int.reduceAdd, Int.reduceSub, Int.reduceToNat, Nat.reduceLT, Nat.reduceLeDiff, Nat.zero_le, or_true, true_or, and_self, not_false_eq_true, forall_const, implies_true, if_true_left, false_or, or_false, p_oD, cut2m, List.all_cons, not_true_eq_false, false_implies, isi_bi, isi_bn, isi_bb, isi_bt, isi_bs, isi_ti, isi_tn, isi_tb, isi_tt, isi_ts, isi_si, isi_sn, isi_sb, isi_st, isi_ss, isi_ii, isi_in, isi_ib, isi_it, isi_is, x_add, x_sub, x_neg, x_lt, x_le, x_gt, x_ge, x_eqI, x_neI, x_is, x_isNot, x_ixL, x_ixT, x_int, x_abs, x_lenL, x_lenT, x_tupL, x_tupT, x_lstL, x_lstT, x_max2, x_min2, at0, at1, at2, at3, atNat, x_inT, x_inL, x_notInT, x_notInL, x_all, x_any, x_sumI, x_nilI, x_nnilI, x_nnilJ, x_eqT, x_neT, x_eqO, x_eqOI, isNone_oD, oD_n, oD_s, decide_eq_true_eq, decide_eq_false_iff_not, true_and, and_true, Nat.sub_self, Nat.reduceSub, Nat.reduceAdd, ite_true, Option.some_inj, eq_self, isNone, Bool.not_true, Int.reduceEq, decide_true, decide_false, exists_eq_left', exists_eq_left, dl_1, dl_2, eq_nn, ne_nn, rgD_hs, Int.toNat_natCast, List.length_map, cut40]
        exact h
      · simp only [↓e_C, ↓e_V, ↓e_Fz, ↓e_Op, ↓e_Un, ↓e_B, ↓e_Chain, ↓e_AndT, ↓e_OrT, ↓e_NotT, ↓e_AndV, ↓e_OrV, ↓e_NotV, ↓e_If, ↓e_Nil, ↓e_Cons, ↓e_Tup, ↓e_Lst, ↓e_CB, ↓e_CBN, ↓e_Isi, ↓e_TupRg1, ↓e_LstRg1, ↓e_TupRg2, ↓e_LstRg2, ↓e_ScrLen, ↓e_ScrAt, ↓e_SeqI, ↓e_Enum, ↓e_Rng1, ↓e_Rng2, ↓e_Seq, ↓e_Next, ↓e_Break, ↓e_Cont, ↓e_Drop, ↓e_Ret, ↓e_RetN, ↓e_Ret0, ↓e_IfS, ↓e_Asg, ↓e_AsgN, ↓e_AsgLc, ↓e_mNil, ↓e_mVal, ↓e_mNew, ↓e_Par, ↓e_For, ↓e_LoopN, ↓e_LoopC, ↓e_Lc, ↓e_Yes, ↓e_Call, ↓e_CallN, ↓e_Append, ↓e_Extend, ↓e_Pop, ↓e_PopAt, ↓e_SetAt, ↓e_Sl, ↓e_NoP, ↓e_P, ↓e_Aug, ↓e_SrtSet, optP_some, vaP_val, boP_val, inP_val, muP_lst, vals_nil, vals_cons, brP_t, brP_f, brP_d, brP_n, scrOf, rg1, rg2, lstAt, lsOf, nt_of, nt_0, nt_1, slotR, slNew, slMu, slOf, setAll, Dl.En.set, Dl.En.wipe, wipeL, noMu_n, noMu_c, isMu_v, isMu_u, isMu_e, isMu_s, tg_nm, Dl.tg_tup, tgs_nil, tgs_cons, fSl, Rv.d, Rv.m, muD, rvDs, obAt, rvOb, obget_s, obget_e, obput_s, obput_e, put_nil, put_one, conv, argOf, argSlot, argExt, obsMu, seqD, env0, argSl, p_mul, p_mod, p_div, p_pow, p_catT, p_catL, p_maxI, p_minI, List.map_cons, List.map_nil, List.replicate_succ, List.replicate_zero, List.length_cons, List.length_nil, List.nil_append, List.cons_append, List.append_nil, List.getElem?_cons_zero, List.getElem?_cons_succ, List.getElem?_nil, List.set_cons_zero, List.set_cons_succ, List.set_nil, Option.bind_some, Option.bind_none, Option.map_some, Option.map_none, Option.some.injEq, Option.isSome_some, List.all_cons, List.all_nil, List.contains_nil, Bool.and_true, Bool.not_false, Bool.true_and, Rv.val.injEq, PyData.int.injEq, PyData.bool.injEq, PyData.tuple.injEq, PyData.list.injEq, and_assoc, Prod.mk.injEq, reduceCtorEq, Mu.lst.injEq, Int.reducePow, Int.reduceNeg, Int.reduceLT, Int.reduceLE, Int.reduceMul, Int.reduceAdd, Int.reduceSub, Int.reduceToNat, Nat.reduceLT, Nat.reduceLeDiff, Nat.zero_le, or_true, true_or, and_self, not_false_eq_true, forall_const, implies_true, if_true_left, false_or, or_false, p_oD, cut2m, List.all_cons, not_true_eq_false, false_implies, isi_bi, isi_bn, isi_bb, isi_bt, isi_bs, isi_ti, isi_tn, isi_tb, isi_tt, isi_ts, isi_si, isi_sn, isi_sb, isi_st, isi_ss, isi_ii, isi_in, isi_ib, isi_it, isi_is, x_add, x_sub, x_neg, x_lt, x_le, x_gt, x_ge, x_eqI, x_neI, x_is, x_isNot, x_ixL, x_ixT, x_int, x_abs, x_lenL, x_lenT, x_tupL, x_tupT, x_lstL, x_lstT, x_max2, x_min2, at0, at1, at2, at3, atNat, x_inT, x_inL, x_notInT, x_notInL, x_all, x_any, x_sumI, x_nilI, x_nnilI, x_nnilJ, x_eqT, x_neT, x_eqO, x_eqOI, isNone_oD, oD_n, oD_s, decide_eq_true_eq, decide_eq_false_iff_not, true_and, and_true, Nat.sub_self, Nat.reduceSub, Nat.reduceAdd, ite_true, Option.some_inj, eq_self, isNone, Bool.not_true, Int.reduceEq, decide_true, decide_false, exists_eq_left', exists_eq_left, dl_1, dl_2, eq_nn, ne_nn, rgD_hs, Int.toNat_natCast, List.length_map, cut40]
        have := (hI.sub l hl).length_le
        refine ⟨by omega, ?_⟩
        rw [tI_app]
        exact h
      · simp only [↓e_C, ↓e_V, ↓e_Fz, ↓e_Op, ↓e_Un, ↓e_B, ↓e_Chain, ↓e_AndT, ↓e_OrT, ↓e_NotT, ↓e_AndV, ↓e_OrV, ↓e_NotV, ↓e_If, ↓e_Nil, ↓e_Cons, ↓e_Tup, ↓e_Lst, ↓e_CB, ↓e_CBN, ↓e_Isi, ↓e_TupRg1, ↓e_LstRg1, ↓e_TupRg2, ↓e_LstRg2, ↓e_ScrLen, ↓e_ScrAt, ↓e_SeqI, ↓e_Enum, ↓e_Rng1, ↓e_Rng2, ↓e_Seq, ↓e_Next, ↓e_Break, ↓e_Cont, ↓e_Drop, ↓e_Ret, ↓e_RetN, ↓e_Ret0, ↓e_IfS, ↓e_Asg, ↓e_AsgN, ↓e_AsgLc, ↓e_mNil, ↓e_mVal, ↓e_mNew, ↓e_Par, ↓e_For, ↓e_LoopN, ↓e_LoopC, ↓e_Lc, ↓e_Yes, ↓e_Call, ↓e_CallN, ↓e_Append, ↓e_Extend, ↓e_Pop, ↓e_PopAt, ↓e_SetAt, ↓e_Sl, ↓e_NoP, ↓e_P, ↓e_Aug, ↓e_SrtSet, optP_some, vaP_val, boP_val, inP_val, muP_lst, vals_nil, vals_cons, brP_t, brP_f, brP_d, brP_n, scrOf, rg1, rg2, lstAt, lsOf, nt_of, nt_0, nt_1, slotR, slNew, slMu, slOf, setAll, Dl.En.set, Dl.En.wipe, wipeL, noMu_n, noMu_c, isMu_v, isMu_u, isMu_e, isMu_s, tg_nm, Dl.tg_tup, tgs_nil, tgs_cons, fSl, Rv.d, Rv.m, muD, rvDs, obAt, rvOb, obget_s, obget_e, obput_s, obput_e, put_nil, put_one, conv, argOf, argSlot, argExt, obsMu, seqD, env0, argSl, p_mul, p_mod, p_div, p_pow, p_catT, p_catL, p_maxI, p_minI, List.map_cons, List.map_nil, List.replicate_succ, List.replicate_zero, List.length_cons, List.length_nil, List.nil_append, List.cons_append, List.append_nil, List.getElem?_cons_zero, List.getElem?_cons_succ, List.getElem?_nil, List.set_cons_zero, List.set_cons_succ, List.set_nil, Option.bind_some, Option.bind_none, Option.map_some, Option.map_none, Option.some.injEq, Option.isSome_some, List.all_cons, List.all_nil, List.contains_nil, Bool.and_true, Bool.not_false, Bool.true_and, Rv.val.injEq, PyData.int.injEq, PyData.bool.injEq, PyData.tuple.injEq, PyData.list.injEq, and_assoc, Prod.mk.injEq, reduceCtorEq, Mu.lst.injEq, Int.reducePow, Int.reduceNeg, Int.reduceLT, Int.reduceLE, Int.reduceMul, Int.reduceAdd, Int.reduceSub, Int.reduceToNat, Nat.reduceLT, Nat.reduceLeDiff, Nat.zero_le, or_true, true_or, and_self, not_false_eq_true, forall_const, implies_true, if_true_left, false_or, or_false, p_oD, cut2m, List.all_cons, not_true_eq_false, false_implies, isi_bi, isi_bn, isi_bb, isi_bt, isi_bs, isi_ti, isi_tn, isi_tb, isi_tt, isi_ts, isi_si, isi_sn, isi_sb, isi_st, isi_ss, isi_ii, isi_in, isi_ib, isi_it, isi_is, x_add, x_sub, x_neg, x_lt, x_le, x_gt, x_ge, x_eqI, x_neI, x_is, x_isNot, x_ixL, x_ixT, x_int, x_abs, x_lenL, x_lenT, x_tupL, x_tupT, x_lstL, x_lstT, x_max2, x_min2, at0, at1, at2, at3, atNat, x_inT, x_inL, x_notInT, x_notInL, x_all, x_any, x_sumI, x_nilI, x_nnilI, x_nnilJ, x_eqT, x_neT, x_eqO, x_eqOI, isNone_oD, oD_n, oD_s, decide_eq_true_eq, decide_eq_false_iff_not, true_and, and_true, Nat.sub_self, Nat.reduceSub, Nat.reduceAdd, ite_true, Option.some_inj, eq_self, isNone, Bool.not_true, Int.reduceEq, decide_true, decide_false, exists_eq_left', exists_eq_left, dl_1, dl_2, eq_nn, ne_nn, rgD_hs, Int.toNat_natCast, List.length_map, cut40]
        refine ⟨by omega, hN _ ⟨found ++ (found.filter fun l => decide ((l.length : Int) < size)).map (fun l => l ++ [x]), .val (.int x), by simpa using e1, hI.step x, trivial, ?_⟩⟩
        simp [List.map_append, List.map_map, Function.comp_def]
    · rintro done env ⟨found, s, e1, hI, hs, rfl⟩
      have hf := hI.few
      rw [List.append_nil] at e1
      subst e1
      rw [hs_len] at hf
      have hp : 2 ^ m ≤ 2 ^ 12 := Nat.pow_le_pow_right (by decide) (by omega)
      simp only [↓e_C, ↓e_V, ↓e_Fz, ↓e_Op, ↓e_Un, ↓e_B, ↓e_Chain, ↓e_AndT, ↓e_OrT, ↓e_NotT, ↓e_AndV, ↓e_OrV, ↓e_NotV, ↓e_If, ↓e_Nil, ↓e_Cons, ↓e_Tup, ↓e_Lst, ↓e_CB, ↓e_CBN, ↓e_Isi, ↓e_TupRg1, ↓e_LstRg1, ↓e_TupRg2, ↓e_LstRg2, ↓e_ScrLen, ↓e_ScrAt, ↓e_SeqI, ↓e_Enum, ↓e_Rng1, ↓e_Rng2, ↓e_Seq, ↓e_Next, ↓e_Break, ↓e_Cont, ↓e_Drop, ↓e_Ret, ↓e_RetN, ↓e_Ret0, ↓e_IfS, ↓e_Asg, ↓e_AsgN, ↓e_AsgLc, ↓e_mNil, ↓e_mVal, ↓e_mNew, ↓e_Par, ↓e_For, ↓e_LoopN, ↓e_LoopC, ↓e_Lc, ↓e_Yes, ↓e_Call, ↓e_CallN, ↓e_Append, ↓e_Extend, ↓e_Pop, ↓e_PopAt, ↓e_SetAt, ↓e_Sl, ↓e_NoP, ↓e_P, ↓e_Aug, ↓e_SrtSet, optP_some, vaP_val, boP_val, inP_val, muP_lst, vals_nil, vals_cons, brP_t, brP_f, brP_d, brP_n, scrOf, rg1, rg2, lstAt, lsOf, nt_of, nt_0, nt_1, slotR, slNew, slMu, slOf, setAll, Dl.En.set, Dl.En.wipe, wipeL, noMu_n, noMu_c, isMu_v, isMu_u, isMu_e, isMu_s, tg_nm, Dl.tg_tup, tgs_nil, tgs_cons, fSl, Rv.d, Rv.m, muD, rvDs, obAt, rvOb, obget_s, obget_e, obput_s, obput_e, put_nil, put_one, conv, argOf, argSlot, argExt, obsMu, seqD, env0, argSl, p_mul, p_mod, p_div, p_pow, p_catT, p_catL, p_maxI, p_minI, List.map_cons, List.map_nil, List.replicate_succ, List.replicate_zero, List.length_cons, List.length_nil, List.nil_append, List.cons_append, List.append_nil, List.getElem?_cons_zero, List.getElem?_cons_succ, List.getElem?_nil, List.set_cons_zero, List.set_cons_succ, List.set_nil, Option.bind_some, Option.bind_none, Option.map_some, Option.map_none, Option.some.injEq, Option.isSome_some, List.all_cons, List.all_nil, List.contains_nil, Bool.and_true, Bool.not_false, Bool.true_and, Rv.val.injEq, PyData.int.injEq, PyData.bool.injEq, PyData.tuple.injEq, PyData.list.injEq, and_assoc, Prod.mk.injEq, reduceCtorEq, Mu.lst.injEq, Int.reducePow, Int.reduceNeg, Int.reduceLT, Int.reduceLE, Int.reduceMul, Int.reduceAdd, Int.reduceSub, Int.reduceToNat, Nat.reduceLT, Nat.reduceLeDiff, Nat.zero_le, or_true, true_or, and_self, not_false_eq_true, forall_const, implies_true, if_true_left, false_or, or_false, p_oD, cut2m, List.all_cons, not_true_eq_false, false_implies, isi_bi, isi_bn, isi_bb, isi_bt, isi_bs, isi_ti, isi_tn, isi_tb, isi_tt, isi_ts, isi_si, isi_sn, isi_sb, isi_st, isi_ss, isi_ii, isi_in, isi_ib, isi_it, isi_is, x_add, x_sub, x_neg, x_lt, x_le, x_gt, x_ge, x_eqI, x_neI, x_is, x_isNot, x_ixL, x_ixT, x_int, x_abs, x_lenL, x_lenT, x_tupL, x_tupT, x_lstL, x_lstT, x_max2, x_min2, at0, at1, at2, at3, atNat, x_inT, x_inL, x_notInT, x_notInL, x_all, x_any, x_sumI, x_nilI, x_nnilI, x_nnilJ, x_eqT, x_neT, x_eqO, x_eqOI, isNone_oD, oD_n, oD_s, decide_eq_true_eq, decide_eq_false_iff_not, true_and, and_true, Nat.sub_self, Nat.reduceSub, Nat.reduceAdd, ite_true, Option.some_inj, eq_self, isNone, Bool.not_true, Int.reduceEq, decide_true, decide_false, exists_eq_left', exists_eq_left, dl_1, dl_2, eq_nn, ne_nn, rgD_hs, Int.toNat_natCast, List.length_map, cut40]
      refine lcGo_fil (enc := tI) (fun l => decide ((l.length : Int) = size)) tI found (by omega) (fun l hl => ⟨_, rfl, rfl, fun QT h => ?_, fun _ QE h => ?_⟩) ?_
      · simp only [↓e_C, ↓e_V, ↓e_Fz, ↓e_Op, ↓e_Un, ↓e_B, ↓e_Chain, ↓e_AndT, ↓e_OrT, ↓e_NotT, ↓e_AndV, ↓e_OrV, ↓e_NotV, ↓e_If, ↓e_Nil, ↓e_Cons, ↓e_Tup, ↓e_Lst, ↓e_CB, ↓e_CBN, ↓e_Isi, ↓e_TupRg1, ↓e_LstRg1, ↓e_TupRg2, ↓e_LstRg2, ↓e_ScrLen, ↓e_ScrAt, ↓e_SeqI, ↓e_Enum, ↓e_Rng1, ↓e_Rng2, ↓e_Seq, ↓e_Next, ↓e_Break, ↓e_Cont, ↓e_Drop, ↓e_Ret, ↓e_RetN, ↓e_Ret0, ↓e_IfS, ↓e_Asg, ↓e_AsgN, ↓e_AsgLc, ↓e_mNil, ↓e_mVal, ↓e_mNew, ↓e_Par, ↓e_For, ↓e_LoopN, ↓e_LoopC, ↓e_Lc, ↓e_Yes, ↓e_Call, ↓e_CallN, ↓e_Append, ↓e_Extend, ↓e_Pop, ↓e_PopAt, ↓e_SetAt, ↓e_Sl, ↓e_NoP, ↓e_P, ↓e_Aug, ↓e_SrtSet, optP_some, vaP_val, boP_val, inP_val, muP_lst, vals_nil, vals_cons, brP_t, brP_f, brP_d, brP_n, scrOf, rg1, rg2, lstAt, lsOf, nt_of, nt_0, nt_1, slotR, slNew, slMu, slOf, setAll, Dl.En.set, Dl.En.wipe, wipeL, noMu_n, noMu_c, isMu_v, isMu_u, isMu_e, isMu_s, tg_nm, Dl.tg_tup, tgs_nil, tgs_cons, fSl, Rv.d, Rv.m, muD, rvDs, obAt, rvOb, obget_s, obget_e, obput_s, obput_e, put_nil, put_one, conv, argOf, argSlot, argExt, obsMu, seqD, env0, argSl, p_mul, p_mod, p_div, p_pow, p_catT, p_catL, p_maxI, p_minI, List.map_cons, List.map_nil, List.replicate_succ, List.replicate_zero, List.length_cons, List.length_nil, List.nil_append, List.cons_append, List.append_nil, List.getElem?_cons_zero, List.getElem?_cons_succ, List.getElem?_nil, List.set_cons_zero, List.set_cons_succ, List.set_nil, Option.bind_some, Option.bind_none, Option.map_some, Option.map_none, Option.some.injEq, Option.isSome_some, List.all_cons, List.all_nil, List.contains_nil, Bool.and_true, Bool.not_false, Bool.true_and, Rv.val.injEq, PyData.int.injEq, PyData.bool.injEq, PyData.tuple.injEq, PyData.list.injEq, and_assoc, Prod.mk.injEq, reduceCtorEq, Mu.lst.injEq, Int.reducePow, Int.reduceNeg, Int.reduceLT, Int.reduceLE, Int.reduceMul, Int.reduceAdd, Int.reduceSub, Int.reduceToNat, Nat.reduceLT, Nat.reduceLeDiff, Nat.zero_le, or_true, true_or, and_self, not_false_eq_true, forall_const, implies_true, if_true_left, false_or, or_false, p_oD, cut2m, List.all_cons, not_true_eq_false, false_implies, isi_bi, isi_bn, isi_bb, isi_bt, isi_bs, isi_ti, isi_tn, isi_tb, isi_tt, isi_ts, isi_si, isi_sn, isi_sb, isi_st, isi_ss, isi_ii, isi_in, isi_ib, isi_it, isi_is, x_add, x_sub, x_neg, x_lt, x_le, x_gt, x_ge, x_eqI, x_neI, x_is, x_isNot, x_ixL, x_ixT, x_int, x_abs, x_lenL, x_lenT, x_tupL, x_tupT, x_lstL, x_lstT, x_max2, x_min2, at0, at1, at2, at3, atNat, x_inT, x_inL, x_notInT, x_notInL, x_all, x_any, x_sumI, x_nilI, x_nnilI, x_nnilJ, x_eqT, x_neT, x_eqO, x_eqOI, isNone_oD, oD_n, oD_s, decide_eq_true_eq, decide_eq_false_iff_not, true_and, and_true, Nat.sub_self, Nat.reduceSub, Nat.reduceAdd, ite_true, Option.some_inj, eq_self, isNone, Bool.not_true, Int.reduceEq, decide_true, decide_false, exists_eq_left', exists_eq_left, dl_1, dl_2, eq_nn, ne_nn, rgD_hs, Int.toNat_natCast, List.length_map, cut40]
        exact h
      · simp only [↓e_C, ↓e_V, ↓e_Fz, ↓e_Op, ↓e_Un, ↓e_B, ↓e_Chain, ↓e_AndT, ↓e_OrT, ↓e_NotT, ↓e_AndV, ↓e_OrV, ↓e_NotV, ↓e_If, ↓e_Nil, ↓e_Cons, ↓e_Tup, ↓e_Lst, ↓e_CB, ↓e_CBN, ↓e_Isi, ↓e_TupRg1, ↓e_LstRg1, ↓e_TupRg2, ↓e_LstRg2, ↓e_ScrLen, ↓e_ScrAt, ↓e_SeqI, ↓e_Enum, ↓e_Rng1, ↓e_Rng2, ↓e_Seq, ↓e_Next, ↓e_Break, ↓e_Cont, ↓e_Drop, ↓e_Ret, ↓e_RetN, ↓e_Ret0, ↓e_IfS, ↓e_Asg, ↓e_AsgN, ↓e_AsgLc, ↓e_mNil, ↓e_mVal, ↓e_mNew, ↓e_Par, ↓e_For, ↓e_LoopN, ↓e_LoopC, ↓e_Lc, ↓e_Yes, ↓e_Call, ↓e_CallN, ↓e_Append, ↓e_Extend, ↓e_Pop, ↓e_PopAt, ↓e_SetAt, ↓e_Sl, ↓e_NoP, ↓e_P, ↓e_Aug, ↓e_SrtSet, optP_some, vaP_val, boP_val, inP_val, muP_lst, vals_nil, vals_cons, brP_t, brP_f, brP_d, brP_n, scrOf, rg1, rg2, lstAt, lsOf, nt_of, nt_0, nt_1, slotR, slNew, slMu, slOf, setAll, Dl.En.set, Dl.En.wipe, wipeL, noMu_n, noMu_c, isMu_v, isMu_u, isMu_e, isMu_s, tg_nm, Dl.tg_tup, tgs_nil, tgs_cons, fSl, Rv.d, Rv.m, muD, rvDs, obAt, rvOb, obget_s, obget_e, obput_s, obput_e, put_nil, put_one, conv, argOf, argSlot, argExt, obsMu, seqD, env0, argSl, p_mul, p_mod, p_div, p_pow, p_catT, p_catL, p_maxI, p_minI, List.map_cons, List.map_nil, List.replicate_succ, List.replicate_zero, List.length_cons, List.length_nil, List.nil_append, List.cons_append, List.append_nil, List.getElem?_cons_zero, List.getElem?_cons_succ, List.getElem?_nil, List.set_cons_zero, List.set_cons_succ, List.set_nil, Option.bind_some, Option.bind_none, Option.map_some, Option.map_none, Option.some.injEq, Option.isSome_some, List.all_cons, List.all_nil, List.contains_nil, Bool.and_true, Bool.not_false, Bool.true_and, Rv.val.injEq, PyData.int.injEq, PyData.bool.injEq, PyData.tuple.injEq, PyData.list.injEq, and_assoc, Prod.mk.injEq, reduceCtorEq, Mu.lst.injEq, Int.reducePow, Int.reduceNeg, Int.reduceLT, Int.reduceLE, Int.reduceMul, Int.reduceAdd, Int.reduceSub, Int.reduceToNat, Nat.reduceLT, Nat.reduceLeDiff, Nat.zero_le, or_true, true_or, and_self, not_false_eq_true, forall_const, implies_true, if_true_left, false_or, or_false, p_oD, cut2m, List.all_cons, not_true_eq_false, false_implies, isi_bi, isi_bn, isi_bb, isi_bt, isi_bs, isi_ti, isi_tn, isi_tb, isi_tt, isi_ts, isi_si, isi_sn, isi_sb, isi_st, isi_ss, isi_ii, isi_in, isi_ib, isi_it, isi_is, x_add, x_sub, x_neg, x_lt, x_le, x_gt, x_ge, x_eqI, x_neI, x_is, x_isNot, x_ixL, x_ixT, x_int, x_abs, x_lenL, x_lenT, x_tupL, x_tupT, x_lstL, x_lstT, x_max2, x_min2, at0, at1, at2, at3, atNat, x_inT, x_inL, x_notInT, x_notInL, x_all, x_any, x_sumI, x_nilI, x_nnilI, x_nnilJ, x_eqT, x_neT, x_eqO, x_eqOI, isNone_oD, oD_n, oD_s, decide_eq_true_eq, decide_eq_false_iff_not, true_and, and_true, Nat.sub_self, Nat.reduceSub, Nat.reduceAdd, ite_true, Option.some_inj, eq_self, isNone, Bool.not_true, Int.reduceEq, decide_true, decide_false, exists_eq_left', exists_eq_left, dl_1, dl_2, eq_nn, ne_nn, rgD_hs, Int.toNat_natCast, List.length_map, cut40]
        exact h
      · simp only [↓e_C, ↓e_V, ↓e_Fz, ↓e_Op, ↓e_Un, ↓e_B, ↓e_Chain, ↓e_AndT, ↓e_OrT, ↓e_NotT, ↓e_AndV, ↓e_OrV, ↓e_NotV, ↓e_If, ↓e_Nil, ↓e_Cons, ↓e_Tup, ↓e_Lst, ↓e_CB, ↓e_CBN, ↓e_Isi, ↓e_TupRg1, ↓e_LstRg1, ↓e_TupRg2, ↓e_LstRg2, ↓e_ScrLen, ↓e_ScrAt, ↓e_SeqI, ↓e_Enum, ↓e_Rng1, ↓e_Rng2, ↓e_Seq, ↓e_Next, ↓e_Break, ↓e_Cont, ↓e_Drop, ↓e_Ret, ↓e_RetN, ↓e_Ret0, ↓e_IfS, ↓e_Asg, ↓e_AsgN, ↓e_AsgLc, ↓e_mNil, ↓e_mVal, ↓e_mNew, ↓e_Par, ↓e_For, ↓e_LoopN, ↓e_LoopC, ↓e_Lc, ↓e_Yes, ↓e_Call, ↓e_CallN, ↓e_Append, ↓e_Extend, ↓e_Pop, ↓e_PopAt, ↓e_SetAt, ↓e_Sl, ↓e_NoP, ↓e_P, ↓e_Aug, ↓e_SrtSet, optP_some, vaP_val, boP_val, inP_val, muP_lst, vals_nil, vals_cons, brP_t, brP_f, brP_d, brP_n, scrOf, rg1, rg2, lstAt, lsOf, nt_of, nt_0, nt_1, slotR, slNew, slMu, slOf, setAll, Dl.En.set, Dl.En.wipe, wipeL, noMu_n, noMu_c, isMu_v, isMu_u, isMu_e, isMu_s, tg_nm, Dl.tg_tup, tgs_nil, tgs_cons, fSl, Rv.d, Rv.m, muD, rvDs, obAt, rvOb, obget_s, obget_e, obput_s, obput_e, put_nil, put_one, conv, argOf, argSlot, argExt, obsMu, seqD, env0, argSl, p_mul, p_mod, p_div, p_pow, p_catT, p_catL, p_maxI, p_minI, List.map_cons, List.map_nil, List.replicate_succ, List.replicate_zero, List.length_cons, List.length_nil, List.nil_append, List.cons_append, List.append_nil, List.getElem?_cons_zero, List.getElem?_cons_succ, List.getElem?_nil, List.set_cons_zero, List.set_cons_succ, List.set_nil, Option.bind_some, Option.bind_none, Option.map_some, Option.map_none, Option.some.injEq, Option.isSome_some, List.all_cons, List.all_nil, List.contains_nil, Bool.and_true, Bool.not_false, Bool.true_and, Rv.val.injEq, PyData.int.injEq, PyData.bool.injEq, PyData.tuple.injEq, PyData.list.injEq, and_assoc, Prod.mk.injEq, reduceCtorEq, Mu.lst.injEq, Int.reducePow, Int.reduceNeg, Int.reduceLT, Int.reduceLE, Int.reduceMul, Int.reduceAdd, Int.reduceSub, Int.reduceToNat, Nat.reduceLT, Nat.reduceLeDiff, Nat.zero_le, or_true, true_or, and_self, not_false_eq_true, forall_const, implies_true, if_true_left, false_or, or_false, p_oD, cut2m, List.all_cons, not_true_eq_false, false_implies, isi_bi, isi_bn, isi_bb, isi_bt, isi_bs, isi_ti, isi_tn, isi_tb, isi_tt, isi_ts, isi_si, isi_sn, isi_sb, isi_st, isi_ss, isi_ii, isi_in, isi_ib, isi_it, isi_is, x_add, x_sub, x_neg, x_lt, x_le, x_gt, x_ge, x_eqI, x_neI, x_is, x_isNot, x_ixL, x_ixT, x_int, x_abs, x_lenL, x_lenT, x_tupL, x_tupT, x_lstL, x_lstT, x_max2, x_min2, at0, at1, at2, at3, atNat, x_inT, x_inL, x_notInT, x_notInL, x_all, x_any, x_sumI, x_nilI, x_nnilI, x_nnilJ, x_eqT, x_neT, x_eqO, x_eqOI, isNone_oD, oD_n, oD_s, decide_eq_true_eq, decide_eq_false_iff_not, true_and, and_true, Nat.sub_self, Nat.reduceSub, Nat.reduceAdd, ite_true, Option.some_inj, eq_self, isNone, Bool.not_true, Int.reduceEq, decide_true, decide_false, exists_eq_left', exists_eq_left, dl_1, dl_2, eq_nn, ne_nn, rgD_hs, Int.toNat_natCast, List.length_map, cut40]
        rw [← List.map_take]
        have h40 : ((found.filter fun l => decide ((l.length : Int) = size)).take 40).length ≤ 40 := by rw [List.length_take]; omega
        have hsub : ∀ l ∈ (found.filter fun l => decide ((l.length : Int) = size)).take 40, l.Sublist (hsI m) := fun l hl => hI.sub l (List.mem_filter.mp (List.mem_of_mem_take hl)).1
        refine ⟨_, rfl, by omega, fun k hk => by have := sub_len (hsub k hk); omega, fun out ho => ?_⟩
        simp only [↓e_C, ↓e_V, ↓e_Fz, ↓e_Op, ↓e_Un, ↓e_B, ↓e_Chain, ↓e_AndT, ↓e_OrT, ↓e_NotT, ↓e_AndV, ↓e_OrV, ↓e_NotV, ↓e_If, ↓e_Nil, ↓e_Cons, ↓e_Tup, ↓e_Lst, ↓e_CB, ↓e_CBN, ↓e_Isi, ↓e_TupRg1, ↓e_LstRg1, ↓e_TupRg2, ↓e_LstRg2, ↓e_ScrLen, ↓e_ScrAt, ↓e_SeqI, ↓e_Enum, ↓e_Rng1, ↓e_Rng2, ↓e_Seq, ↓e_Next, ↓e_Break, ↓e_Cont, ↓e_Drop, ↓e_Ret, ↓e_RetN, ↓e_Ret0, ↓e_IfS, ↓e_Asg, ↓e_AsgN, ↓e_AsgLc, ↓e_mNil, ↓e_mVal, ↓e_mNew, ↓e_Par, ↓e_For, ↓e_LoopN, ↓e_LoopC, ↓e_Lc, ↓e_Yes, ↓e_Call, ↓e_CallN, ↓e_Append, ↓e_Extend, ↓e_Pop, ↓e_PopAt, ↓e_SetAt, ↓e_Sl, ↓e_NoP, ↓e_P, ↓e_Aug, ↓e_SrtSet, optP_some, vaP_val, boP_val, inP_val, muP_lst, vals_nil, vals_cons, brP_t, brP_f, brP_d, brP_n, scrOf, rg1, rg2, lstAt, lsOf, nt_of, nt_0, nt_1, slotR, slNew, slMu, slOf, setAll, Dl.En.set, Dl.En.wipe, wipeL, noMu_n, noMu_c, isMu_v, isMu_u, isMu_e, isMu_s, tg_nm, Dl.tg_tup, tgs_nil, tgs_cons, fSl, Rv.d, Rv.m, muD, rvDs, obAt, rvOb, obget_s, obget_e, obput_s, obput_e, put_nil, put_one, conv, argOf, argSlot, argExt, obsMu, seqD, env0, argSl, p_mul, p_mod, p_div, p_pow, p_catT, p_catL, p_maxI, p_minI, List.map_cons, List.map_nil, List.replicate_succ, List.replicate_zero, List.length_cons, List.length_nil, List.nil_append, List.cons_append, List.append_nil, List.getElem?_cons_zero, List.getElem?_cons_succ, List.getElem?_nil, List.set_cons_zero, List.set_cons_succ, List.set_nil, Option.bind_some, Option.bind_none, Option.map_some, Option.map_none, Option.some.injEq, Option.isSome_some, List.all_cons, List.all_nil, List.contains_nil, Bool.and_true, Bool.not_false, Bool.true_and, Rv.val.injEq, PyData.int.injEq, PyData.bool.injEq, PyData.tuple.injEq, PyData.list.injEq, and_assoc, Prod.mk.injEq, reduceCtorEq, Mu.lst.injEq, Int.reducePow, Int.reduceNeg, Int.reduceLT, Int.reduceLE, Int.reduceMul, Int.reduceAdd, Int.reduceSub, Int.reduceToNat, Nat.reduceLT, Nat.reduceLeDiff, Nat.zero_le, or_true, true_or, and_self, not_false_eq_true, forall_const, implies_true, if_true_left, false_or, or_false, p_oD, cut2m, List.all_cons, not_true_eq_false, false_implies, isi_bi, isi_bn, isi_bb, isi_bt, isi_bs, isi_ti, isi_tn, isi_tb, isi_tt, isi_ts, isi_si, isi_sn, isi_sb, isi_st, isi_ss, isi_ii, isi_in, isi_ib, isi_it, isi_is, x_add, x_sub, x_neg, x_lt, x_le, x_gt, x_ge, x_eqI, x_neI, x_is, x_isNot, x_ixL, x_ixT, x_int, x_abs, x_lenL, x_lenT, x_tupL, x_tupT, x_lstL, x_lstT, x_max2, x_min2, at0, at1, at2, at3, atNat, x_inT, x_inL, x_notInT, x_notInL, x_all, x_any, x_sumI, x_nilI, x_nnilI, x_nnilJ, x_eqT, x_neT, x_eqO, x_eqOI, isNone_oD, oD_n, oD_s, decide_eq_true_eq, decide_eq_false_iff_not, true_and, and_true, Nat.sub_self, Nat.reduceSub, Nat.reduceAdd, ite_true, Option.some_inj, eq_self, isNone, Bool.not_true, Int.reduceEq, decide_true, decide_false, exists_eq_left', exists_eq_left, dl_1, dl_2, eq_nn, ne_nn, rgD_hs, Int.toNat_natCast, List.length_map, cut40]
        refine q _ _ (LiOk.of ho (fun z => ?_) (by omega) hsub) ⟨_, _, rfl⟩
        obtain ⟨l, hl, e⟩ := hI.one
        rw [hs_len] at e
        have hl' : l ∈ found.filter fun l => decide ((l.length : Int) = size) := List.mem_filter.mpr ⟨hl, decide_eq_true (by omega)⟩
        cases z2 : found.filter fun l => decide ((l.length : Int) = size) with
        | nil => rw [z2] at hl'; cases hl'
        | cons a b => rw [z2] at z; cases z
  · refine box_take (by omega) (by omega) fun n g r n0 n1 => ?_
    simp only [↓e_C, ↓e_V, ↓e_Fz, ↓e_Op, ↓e_Un, ↓e_B, ↓e_Chain, ↓e_AndT, ↓e_OrT, ↓e_NotT, ↓e_AndV, ↓e_OrV, ↓e_NotV, ↓e_If, ↓e_Nil, ↓e_Cons, ↓e_Tup, ↓e_Lst, ↓e_CB, ↓e_CBN, ↓e_Isi, ↓e_TupRg1, ↓e_LstRg1, ↓e_TupRg2, ↓e_LstRg2, ↓e_ScrLen, ↓e_ScrAt, ↓e_SeqI, ↓e_Enum, ↓e_Rng1, ↓e_Rng2, ↓e_Seq, ↓e_Next, ↓e_Break, ↓e_Cont, ↓e_Drop, ↓e_Ret, ↓e_RetN, ↓e_Ret0, ↓e_IfS, ↓e_Asg, ↓e_AsgN, ↓e_AsgLc, ↓e_mNil, ↓e_mVal, ↓e_mNew, ↓e_Par, ↓e_For, ↓e_LoopN, ↓e_LoopC, ↓e_Lc, ↓e_Yes, ↓e_Call, ↓e_CallN, ↓e_Append, ↓e_Extend, ↓e_Pop, ↓e_PopAt, ↓e_SetAt, ↓e_Sl, ↓e_NoP, ↓e_P, ↓e_Aug, ↓e_SrtSet, optP_some, vaP_val, boP_val, inP_val, muP_lst, vals_nil, vals_cons, brP_t, brP_f, brP_d, brP_n, scrOf, rg1, rg2, lstAt, lsOf, nt_of, nt_0, nt_1, slotR, slNew, slMu, slOf, setAll, Dl.En.set, Dl.En.wipe, wipeL, noMu_n, noMu_c, isMu_v, isMu_u, isMu_e, isMu_s, tg_nm, Dl.tg_tup, tgs_nil, tgs_cons, fSl, Rv.d, Rv.m, muD, rvDs, obAt, rvOb, obget_s, obget_e, obput_s, obput_e, put_nil, put_one, conv, argOf, argSlot, argExt, obsMu, seqD, env0, argSl, p_mul, p_mod, p_div, p_pow, p_catT, p_catL, p_maxI, p_minI, List.map_cons, List.map_nil, List.replicate_succ, List.replicate_zero, List.length_cons, List.length_nil, List.nil_append, List.cons_append, List.append_nil, List.getElem?_cons_zero, List.getElem?_cons_succ, List.getElem?_nil, List.set_cons_zero, List.set_cons_succ, List.set_nil, Option.bind_some, Option.bind_none, Option.map_some, Option.map_none, Option.some.injEq, Option.isSome_some, List.all_cons, List.all_nil, List.contains_nil, Bool.and_true, Bool.not_false, Bool.true_and, Rv.val.injEq, PyData.int.injEq, PyData.bool.injEq, PyData.tuple.injEq, PyData.list.injEq, and_assoc, Prod.mk.injEq, reduceCtorEq, Mu.lst.injEq, Int.reducePow, Int.reduceNeg, Int.reduceLT, Int.reduceLE, Int.reduceMul, Int.reduceAdd, Int.reduceSub, Int.reduceToNat, Nat.reduceLT, Nat.reduceLeDiff, Nat.zero_le, or_true, true_or, and_self, not_false_eq_true, forall_const, implies_true, if_true_left, false_or, or_false, p_oD, cut2m, List.all_cons, not_true_eq_false, false_implies, isi_bi, isi_bn, isi_bb, isi_bt, isi_bs, isi_ti, isi_tn, isi_tb, isi_tt, isi_ts, isi_si, isi_sn, isi_sb, isi_st, isi_ss, isi_ii, isi_in, isi_ib, isi_it, isi_is, x_add, x_sub, x_neg, x_lt, x_le, x_gt, x_ge, x_eqI, x_neI, x_is, x_isNot, x_ixL, x_ixT, x_int, x_abs, x_lenL, x_lenT, x_tupL, x_tupT, x_lstL, x_lstT, x_max2, x_min2, at0, at1, at2, at3, atNat, x_inT, x_inL, x_notInT, x_notInL, x_all, x_any, x_sumI, x_nilI, x_nnilI, x_nnilJ, x_eqT, x_neT, x_eqO, x_eqOI, isNone_oD, oD_n, oD_s, decide_eq_true_eq, decide_eq_false_iff_not, true_and, and_true, Nat.sub_self, Nat.reduceSub, Nat.reduceAdd, ite_true, Option.some_inj, eq_self, isNone, Bool.not_true, Int.reduceEq, decide_true, decide_false, exists_eq_left', exists_eq_left, dl_1, dl_2, eq_nn, ne_nn, rgD_hs, Int.toNat_natCast, List.length_map, cut40]
    refine ⟨by omega, by omega, ?_⟩
    refine lcGo_st (enc := PyData.int) (dec := tI) Bx false (fun _ l => l.Sublist (hsI m)) (hsI (1 + n).toNat) [] _ ⟨_, _, rfl⟩ (by rw [hs_len]; simp; omega) (fun x _ xt hb => ?_) fun ys xt' hs' hb' => ?_
    · obtain ⟨g, r, rfl⟩ := hb
      refine ⟨_, rfl, fun C c1 c2 => ?_⟩
      simp only [↓e_C, ↓e_V, ↓e_Fz, ↓e_Op, ↓e_Un, ↓e_B, ↓e_Chain, ↓e_AndT, ↓e_OrT, ↓e_NotT, ↓e_AndV, ↓e_OrV, ↓e_NotV, ↓e_If, ↓e_Nil, ↓e_Cons, ↓e_Tup, ↓e_Lst, ↓e_CB, ↓e_CBN, ↓e_Isi, ↓e_TupRg1, ↓e_LstRg1, ↓e_TupRg2, ↓e_LstRg2, ↓e_ScrLen, ↓e_ScrAt, ↓e_SeqI, ↓e_Enum, ↓e_Rng1, ↓e_Rng2, ↓e_Seq, ↓e_Next, ↓e_Break, ↓e_Cont, ↓e_Drop, ↓e_Ret, ↓e_RetN, ↓e_Ret0, ↓e_IfS, ↓e_Asg, ↓e_AsgN, ↓e_AsgLc, ↓e_mNil, ↓e_mVal, ↓e_mNew, ↓e_Par, ↓e_For, ↓e_LoopN, ↓e_LoopC, ↓e_Lc, ↓e_Yes, ↓e_Call, ↓e_CallN, ↓e_Append, ↓e_Extend, ↓e_Pop, ↓e_PopAt, ↓e_SetAt, ↓e_Sl, ↓e_NoP, ↓e_P, ↓e_Aug, ↓e_SrtSet, optP_some, vaP_val, boP_val, inP_val, muP_lst, vals_nil, vals_cons, brP_t, brP_f, brP_d, brP_n, scrOf, rg1, rg2, lstAt, lsOf, nt_of, nt_0, nt_1, slotR, slNew, slMu, slOf, setAll, Dl.En.set, Dl.En.wipe, wipeL, noMu_n, noMu_c, isMu_v, isMu_u, isMu_e, isMu_s, tg_nm, Dl.tg_tup, tgs_nil, tgs_cons, fSl, Rv.d, Rv.m, muD, rvDs, obAt, rvOb, obget_s, obget_e, obput_s, obput_e, put_nil, put_one, conv, argOf, argSlot, argExt, obsMu, seqD, env0, argSl, p_mul, p_mod, p_div, p_pow, p_catT, p_catL, p_maxI, p_minI, List.map_cons, List.map_nil, List.replicate_succ, List.replicate_zero, List.length_cons, List.length_nil, List.nil_append, List.cons_append, List.append_nil, List.getElem?_cons_zero, List.getElem?_cons_succ, List.getElem?_nil, List.set_cons_zero, List.set_cons_succ, List.set_nil, Option.bind_some, Option.bind_none, Option.map_some, Option.map_none, Option.some.injEq, Option.isSome_some, List.all_cons, List.all_nil, List.contains_nil, Bool.and_true, Bool.not_false, Bool.true_and, Rv.val.injEq, PyData.int.injEq, PyData.bool.injEq, PyData.tuple.injEq, PyData.list.injEq, and_assoc, Prod.mk.injEq, reduceCtorEq, Mu.lst.injEq, Int.reducePow, Int.reduceNeg, Int.reduceLT, Int.reduceLE, Int.reduceMul, Int.reduceAdd, Int.reduceSub, Int.reduceToNat, Nat.reduceLT, Nat.reduceLeDiff, Nat.zero_le, or_true, true_or, and_self, not_false_eq_true, forall_const, implies_true, if_true_left, false_or, or_false, p_oD, cut2m, List.all_cons, not_true_eq_false, false_implies, isi_bi, isi_bn, isi_bb, isi_bt, isi_bs, isi_ti, isi_tn, isi_tb, isi_tt, isi_ts, isi_si, isi_sn, isi_sb, isi_st, isi_ss, isi_ii, isi_in, isi_ib, isi_it, isi_is, x_add, x_sub, x_neg, x_lt, x_le, x_gt, x_ge, x_eqI, x_neI, x_is, x_isNot, x_ixL, x_ixT, x_int, x_abs, x_lenL, x_lenT, x_tupL, x_tupT, x_lstL, x_lstT, x_max2, x_min2, at0, at1, at2, at3, atNat, x_inT, x_inL, x_notInT, x_notInL, x_all, x_any, x_sumI, x_nilI, x_nnilI, x_nnilJ, x_eqT, x_neT, x_eqO, x_eqOI, isNone_oD, oD_n, oD_s, decide_eq_true_eq, decide_eq_false_iff_not, true_and, and_true, Nat.sub_self, Nat.reduceSub, Nat.reduceAdd, ite_true, Option.some_inj, eq_self, isNone, Bool.not_true, Int.reduceEq, decide_true, decide_false, exists_eq_left', exists_eq_left, dl_1, dl_2, eq_nn, ne_nn, rgD_hs, Int.toNat_natCast, List.length_map, cut40]
      refine box_pick rfl (by simp) (by simp) fun p hp g r => ?_
      have hp' : ∃ i : Int, p = .int i ∧ 0 < i ∧ i < 1073741824 := by
        simp only [List.mem_cons, List.not_mem_nil, or_false] at hp
        rcases hp with rfl | rfl | rfl <;> exact ⟨_, rfl, by decide, by decide⟩
      obtain ⟨i, rfl, i0, i1⟩ := hp'
      simp only [↓e_C, ↓e_V, ↓e_Fz, ↓e_Op, ↓e_Un, ↓e_B, ↓e_Chain, ↓e_AndT, ↓e_OrT, ↓e_NotT, ↓e_AndV, ↓e_OrV, ↓e_NotV, ↓e_If, ↓e_Nil, ↓e_Cons, ↓e_Tup, ↓e_Lst, ↓e_CB, ↓e_CBN, ↓e_Isi, ↓e_TupRg1, ↓e_LstRg1, ↓e_TupRg2, ↓e_LstRg2, ↓e_ScrLen, ↓e_ScrAt, ↓e_SeqI, ↓e_Enum, ↓e_Rng1, ↓e_Rng2, ↓e_Seq, ↓e_Next, ↓e_Break, ↓e_Cont, ↓e_Drop, ↓e_Ret, ↓e_RetN, ↓e_Ret0, ↓e_IfS, ↓e_Asg, ↓e_AsgN, ↓e_AsgLc, ↓e_mNil, ↓e_mVal, ↓e_mNew, ↓e_Par, ↓e_For, ↓e_LoopN, ↓e_LoopC, ↓e_Lc, ↓e_Yes, ↓e_Call, ↓e_CallN, ↓e_Append, ↓e_Extend, ↓e_Pop, ↓e_PopAt, ↓e_SetAt, ↓e_Sl, ↓e_NoP, ↓e_P, ↓e_Aug, ↓e_SrtSet, optP_some, vaP_val, boP_val, inP_val, muP_lst, vals_nil, vals_cons, brP_t, brP_f, brP_d, brP_n, scrOf, rg1, rg2, lstAt, lsOf, nt_of, nt_0, nt_1, slotR, slNew, slMu, slOf, setAll, Dl.En.set, Dl.En.wipe, wipeL, noMu_n, noMu_c, isMu_v, isMu_u, isMu_e, isMu_s, tg_nm, Dl.tg_tup, tgs_nil, tgs_cons, fSl, Rv.d, Rv.m, muD, rvDs, obAt, rvOb, obget_s, obget_e, obput_s, obput_e, put_nil, put_one, conv, argOf, argSlot, argExt, obsMu, seqD, env0, argSl, p_mul, p_mod, p_div, p_pow, p_catT, p_catL, p_maxI, p_minI, List.map_cons, List.map_nil, List.replicate_succ, List.replicate_zero, List.length_cons, List.length_nil, List.nil_append, List.cons_append, List.append_nil, List.getElem?_cons_zero, List.getElem?_cons_succ, List.getElem?_nil, List.set_cons_zero, List.set_cons_succ, List.set_nil, Option.bind_some, Option.bind_none, Option.map_some, Option.map_none, Option.some.injEq, Option.isSome_some, List.all_cons, List.all_nil, List.contains_nil, Bool.and_true, Bool.not_false, Bool.true_and, Rv.val.injEq, PyData.int.injEq, PyData.bool.injEq, PyData.tuple.injEq, PyData.list.injEq, and_assoc, Prod.mk.injEq, reduceCtorEq, Mu.lst.injEq, Int.reducePow, Int.reduceNeg, Int.reduceLT, Int.reduceLE, Int.reduceMul, Int.reduceAdd, Int.reduceSub, Int.reduceToNat, Nat.reduceLT, Nat.reduceLeDiff, Nat.zero_le, or_true, true_or, and_self, not_false_eq_true, forall_const, implies_true, if_true_left, false_or, or_false, p_oD, cut2m, List.all_cons, not_true_eq_false, false_implies, isi_bi, isi_bn, isi_bb, isi_bt, isi_bs, isi_ti, isi_tn, isi_tb, isi_tt, isi_ts, isi_si, isi_sn, isi_sb, isi_st, isi_ss, isi_ii, isi_in, isi_ib, isi_it, isi_is, x_add, x_sub, x_neg, x_lt, x_le, x_gt, x_ge, x_eqI, x_neI, x_is, x_isNot, x_ixL, x_ixT, x_int, x_abs, x_lenL, x_lenT, x_tupL, x_tupT, x_lstL, x_lstT, x_max2, x_min2, at0, at1, at2, at3, atNat, x_inT, x_inL, x_notInT, x_notInL, x_all, x_any, x_sumI, x_nilI, x_nnilI, x_nnilJ, x_eqT, x_neT, x_eqO, x_eqOI, isNone_oD, oD_n, oD_s, decide_eq_true_eq, decide_eq_false_iff_not, true_and, and_true, Nat.sub_self, Nat.reduceSub, Nat.reduceAdd, ite_true, Option.some_inj, eq_self, isNone, Bool.not_true, Int.reduceEq, decide_true, decide_false, exists_eq_left', exists_eq_left, dl_1, dl_2, eq_nn, ne_nn, rgD_hs, Int.toNat_natCast, List.length_map, cut40]
      refine box_lot (by rw [hs_len]; omega) i0 i1 fun l g r hl => ?_
      simp only [↓e_C, ↓e_V, ↓e_Fz, ↓e_Op, ↓e_Un, ↓e_B, ↓e_Chain, ↓e_AndT, ↓e_OrT, ↓e_NotT, ↓e_AndV, ↓e_OrV, ↓e_NotV, ↓e_If, ↓e_Nil, ↓e_Cons, ↓e_Tup, ↓e_Lst, ↓e_CB, ↓e_CBN, ↓e_Isi, ↓e_TupRg1, ↓e_LstRg1, ↓e_TupRg2, ↓e_LstRg2, ↓e_ScrLen, ↓e_ScrAt, ↓e_SeqI, ↓e_Enum, ↓e_Rng1, ↓e_Rng2, ↓e_Seq, ↓e_Next, ↓e_Break, ↓e_Cont, ↓e_Drop, ↓e_Ret, ↓e_RetN, ↓e_Ret0, ↓e_IfS, ↓e_Asg, ↓e_AsgN, ↓e_AsgLc, ↓e_mNil, ↓e_mVal, ↓e_mNew, ↓e_Par, ↓e_For, ↓e_LoopN, ↓e_LoopC, ↓e_Lc, ↓e_Yes, ↓e_Call, ↓e_CallN, ↓e_Append, ↓e_Extend, ↓e_Pop, ↓e_PopAt, ↓e_SetAt, ↓e_Sl, ↓e_NoP, ↓e_P, ↓e_Aug, ↓e_SrtSet, optP_some, vaP_val, boP_val, inP_val, muP_lst, vals_nil, vals_cons, brP_t, brP_f, brP_d, brP_n, scrOf, rg1, rg2, lstAt, lsOf, nt_of, nt_0, nt_1, slotR, slNew, slMu, slOf, setAll, Dl.En.set, Dl.En.wipe, wipeL, noMu_n, noMu_c, isMu_v, isMu_u, isMu_e, isMu_s, tg_nm, Dl.tg_tup, tgs_nil, tgs_cons, fSl, Rv.d, Rv.m, muD, rvDs, obAt, rvOb, obget_s, obget_e, obput_s, obput_e, put_nil, put_one, conv, argOf, argSlot, argExt, obsMu, seqD, env0, argSl, p_mul, p_mod, p_div, p_pow, p_catT, p_catL, p_maxI, p_minI, List.map_cons, List.map_nil, List.replicate_succ, List.replicate_zero, List.length_cons, List.length_nil, List.nil_append, List.cons_append, List.append_nil, List.getElem?_cons_zero, List.getElem?_cons_succ, List.getElem?_nil, List.set_cons_zero, List.set_cons_succ, List.set_nil, Option.bind_some, Option.bind_none, Option.map_some, Option.map_none, Option.some.injEq, Option.isSome_some, List.all_cons, List.all_nil, List.contains_nil, Bool.and_true, Bool.not_false, Bool.true_and, Rv.val.injEq, PyData.int.injEq, PyData.bool.injEq, PyData.tuple.injEq, PyData.list.injEq, and_assoc, Prod.mk.injEq, reduceCtorEq, Mu.lst.injEq, Int.reducePow, Int.reduceNeg, Int.reduceLT, Int.reduceLE, Int.reduceMul, Int.reduceAdd, Int.reduceSub, Int.reduceToNat, Nat.reduceLT, Nat.reduceLeDiff, Nat.zero_le, or_true, true_or, and_self, not_false_eq_true, forall_const, implies_true, if_true_left, false_or, or_false, p_oD, cut2m, List.all_cons, not_true_eq_false, false_implies, isi_bi, isi_bn, isi_bb, isi_bt, isi_bs, isi_ti, isi_tn, isi_tb, isi_tt, isi_ts, isi_si, isi_sn, isi_sb, isi_st, isi_ss, isi_ii, isi_in, isi_ib, isi_it, isi_is, x_add, x_sub, x_neg, x_lt, x_le, x_gt, x_ge, x_eqI, x_neI, x_is, x_isNot, x_ixL, x_ixT, x_int, x_abs, x_lenL, x_lenT, x_tupL, x_tupT, x_lstL, x_lstT, x_max2, x_min2, at0, at1, at2, at3, atNat, x_inT, x_inL, x_notInT, x_notInL, x_all, x_any, x_sumI, x_nilI, x_nnilI, x_nnilJ, x_eqT, x_neT, x_eqO, x_eqOI, isNone_oD, oD_n, oD_s, decide_eq_true_eq, decide_eq_false_iff_not, true_and, and_true, Nat.sub_self, Nat.reduceSub, Nat.reduceAdd, ite_true, Option.some_inj, eq_self, isNone, Bool.not_true, Int.reduceEq, decide_true, decide_false, exists_eq_left', exists_eq_left, dl_1, dl_2, eq_nn, ne_nn, rgD_hs, Int.toNat_natCast, List.length_map, cut40]
      exact c1 l _ hl ⟨_, _, rfl⟩
    · have hlen := hs'.len
      rw [hs_len] at hlen
      obtain ⟨g, r, rfl⟩ := hb'
      have hsub : ∀ l ∈ ys, l.Sublist (hsI m) := fun l hl => by obtain ⟨_, _, h⟩ := hs'.mem l hl; exact h
      simp only [↓e_C, ↓e_V, ↓e_Fz, ↓e_Op, ↓e_Un, ↓e_B, ↓e_Chain, ↓e_AndT, ↓e_OrT, ↓e_NotT, ↓e_AndV, ↓e_OrV, ↓e_NotV, ↓e_If, ↓e_Nil, ↓e_Cons, ↓e_Tup, ↓e_Lst, ↓e_CB, ↓e_CBN, ↓e_Isi, ↓e_TupRg1, ↓e_LstRg1, ↓e_TupRg2, ↓e_LstRg2, ↓e_ScrLen, ↓e_ScrAt, ↓e_SeqI, ↓e_Enum, ↓e_Rng1, ↓e_Rng2, ↓e_Seq, ↓e_Next, ↓e_Break, ↓e_Cont, ↓e_Drop, ↓e_Ret, ↓e_RetN, ↓e_Ret0, ↓e_IfS, ↓e_Asg, ↓e_AsgN, ↓e_AsgLc, ↓e_mNil, ↓e_mVal, ↓e_mNew, ↓e_Par, ↓e_For, ↓e_LoopN, ↓e_LoopC, ↓e_Lc, ↓e_Yes, ↓e_Call, ↓e_CallN, ↓e_Append, ↓e_Extend, ↓e_Pop, ↓e_PopAt, ↓e_SetAt, ↓e_Sl, ↓e_NoP, ↓e_P, ↓e_Aug, ↓e_SrtSet, optP_some, vaP_val, boP_val, inP_val, muP_lst, vals_nil, vals_cons, brP_t, brP_f, brP_d, brP_n, scrOf, rg1, rg2, lstAt, lsOf, nt_of, nt_0, nt_1, slotR, slNew, slMu, slOf, setAll, Dl.En.set, Dl.En.wipe, wipeL, noMu_n, noMu_c, isMu_v, isMu_u, isMu_e, isMu_s, tg_nm, Dl.tg_tup, tgs_nil, tgs_cons, fSl, Rv.d, Rv.m, muD, rvDs, obAt, rvOb, obget_s, obget_e, obput_s, obput_e, put_nil, put_one, conv, argOf, argSlot, argExt, obsMu, seqD, env0, argSl, p_mul, p_mod, p_div, p_pow, p_catT, p_catL, p_maxI, p_minI, List.map_cons, List.map_nil, List.replicate_succ, List.replicate_zero, List.length_cons, List.length_nil, List.nil_append, List.cons_append, List.append_nil, List.getElem?_cons_zero, List.getElem?_cons_succ, List.getElem?_nil, List.set_cons_zero, List.set_cons_succ, List.set_nil, Option.bind_some, Option.bind_none, Option.map_some, Option.map_none, Option.some.injEq, Option.isSome_some, List.all_cons, List.all_nil, List.contains_nil, Bool.and_true, Bool.not_false, Bool.true_and, Rv.val.injEq, PyData.int.injEq, PyData.bool.injEq, PyData.tuple.injEq, PyData.list.injEq, and_assoc, Prod.mk.injEq, reduceCtorEq, Mu.lst.injEq, Int.reducePow, Int.reduceNeg, Int.reduceLT, Int.reduceLE, Int.reduceMul, Int.reduceAdd, Int.reduceSub, Int.reduceToNat, Nat.reduceLT, Nat.reduceLeDiff, Nat.zero_le, or_true, true_or, and_self, not_false_eq_true, forall_const, implies_true, if_true_left, false_or, or_false, p_oD, cut2m, List.all_cons, not_true_eq_false, false_implies, isi_bi, isi_bn, isi_bb, isi_bt, isi_bs, isi_ti, isi_tn, isi_tb, isi_tt, isi_ts, isi_si, isi_sn, isi_sb, isi_st, isi_ss, isi_ii, isi_in, isi_ib, isi_it, isi_is, x_add, x_sub, x_neg, x_lt, x_le, x_gt, x_ge, x_eqI, x_neI, x_is, x_isNot, x_ixL, x_ixT, x_int, x_abs, x_lenL, x_lenT, x_tupL, x_tupT, x_lstL, x_lstT, x_max2, x_min2, at0, at1, at2, at3, atNat, x_inT, x_inL, x_notInT, x_notInL, x_all, x_any, x_sumI, x_nilI, x_nnilI, x_nnilJ, x_eqT, x_neT, x_eqO, x_eqOI, isNone_oD, oD_n, oD_s, decide_eq_true_eq, decide_eq_false_iff_not, true_and, and_true, Nat.sub_self, Nat.reduceSub, Nat.reduceAdd, ite_true, Option.some_inj, eq_self, isNone, Bool.not_true, Int.reduceEq, decide_true, decide_false, exists_eq_left', exists_eq_left, dl_1, dl_2, eq_nn, ne_nn, rgD_hs, Int.toNat_natCast, List.length_map, cut40]
      refine ⟨ys, rfl, by omega, fun k hk => by have := sub_len (hsub k hk); omega, fun out ho => ?_⟩
      simp only [↓e_C, ↓e_V, ↓e_Fz, ↓e_Op, ↓e_Un, ↓e_B, ↓e_Chain, ↓e_AndT, ↓e_OrT, ↓e_NotT, ↓e_AndV, ↓e_OrV, ↓e_NotV, ↓e_If, ↓e_Nil, ↓e_Cons, ↓e_Tup, ↓e_Lst, ↓e_CB, ↓e_CBN, ↓e_Isi, ↓e_TupRg1, ↓e_LstRg1, ↓e_TupRg2, ↓e_LstRg2, ↓e_ScrLen, ↓e_ScrAt, ↓e_SeqI, ↓e_Enum, ↓e_Rng1, ↓e_Rng2, ↓e_Seq, ↓e_Next, ↓e_Break, ↓e_Cont, ↓e_Drop, ↓e_Ret, ↓e_RetN, ↓e_Ret0, ↓e_IfS, ↓e_Asg, ↓e_AsgN, ↓e_AsgLc, ↓e_mNil, ↓e_mVal, ↓e_mNew, ↓e_Par, ↓e_For, ↓e_LoopN, ↓e_LoopC, ↓e_Lc, ↓e_Yes, ↓e_Call, ↓e_CallN, ↓e_Append, ↓e_Extend, ↓e_Pop, ↓e_PopAt, ↓e_SetAt, ↓e_Sl, ↓e_NoP, ↓e_P, ↓e_Aug, ↓e_SrtSet, optP_some, vaP_val, boP_val, inP_val, muP_lst, vals_nil, vals_cons, brP_t, brP_f, brP_d, brP_n, scrOf, rg1, rg2, lstAt, lsOf, nt_of, nt_0, nt_1, slotR, slNew, slMu, slOf, setAll, Dl.En.set, Dl.En.wipe, wipeL, noMu_n, noMu_c, isMu_v, isMu_u, isMu_e, isMu_s, tg_nm, Dl.tg_tup, tgs_nil, tgs_cons, fSl, Rv.d, Rv.m, muD, rvDs, obAt, rvOb, obget_s, obget_e, obput_s, obput_e, put_nil, put_one, conv, argOf, argSlot, argExt, obsMu, seqD, env0, argSl, p_mul, p_mod, p_div, p_pow, p_catT, p_catL, p_maxI, p_minI, List.map_cons, List.map_nil, List.replicate_succ, List.replicate_zero, List.length_cons, List.length_nil, List.nil_append, List.cons_append, List.append_nil, List.getElem?_cons_zero, List.getElem?_cons_succ, List.getElem?_nil, List.set_cons_zero, List.set_cons_succ, List.set_nil, Option.bind_some, Option.bind_none, Option.map_some, Option.map_none, Option.some.injEq, Option.isSome_some, List.all_cons, List.all_nil, List.contains_nil, Bool.and_true, Bool.not_false, Bool.true_and, Rv.val.injEq, PyData.int.injEq, PyData.bool.injEq, PyData.tuple.injEq, PyData.list.injEq, and_assoc, Prod.mk.injEq, reduceCtorEq, Mu.lst.injEq, Int.reducePow, Int.reduceNeg, Int.reduceLT, Int.reduceLE, Int.reduceMul, Int.reduceAdd, Int.reduceSub, Int.reduceToNat, Nat.reduceLT, Nat.reduceLeDiff, Nat.zero_le, or_true, true_or, and_self, not_false_eq_true, forall_const, implies_true, if_true_left, false_or, or_false, p_oD, cut2m, List.all_cons, not_true_eq_false, false_implies, isi_bi, isi_bn, isi_bb, isi_bt, isi_bs, isi_ti, isi_tn, isi_tb, isi_tt, isi_ts, isi_si, isi_sn, isi_sb, isi_st, isi_ss, isi_ii, isi_in, isi_ib, isi_it, isi_is, x_add, x_sub, x_neg, x_lt, x_le, x_gt, x_ge, x_eqI, x_neI, x_is, x_isNot, x_ixL, x_ixT, x_int, x_abs, x_lenL, x_lenT, x_tupL, x_tupT, x_lstL, x_lstT, x_max2, x_min2, at0, at1, at2, at3, atNat, x_inT, x_inL, x_notInT, x_notInL, x_all, x_any, x_sumI, x_nilI, x_nnilI, x_nnilJ, x_eqT, x_neT, x_eqO, x_eqOI, isNone_oD, oD_n, oD_s, decide_eq_true_eq, decide_eq_false_iff_not, true_and, and_true, Nat.sub_self, Nat.reduceSub, Nat.reduceAdd, ite_true, Option.some_inj, eq_self, isNone, Bool.not_true, Int.reduceEq, decide_true, decide_false, exists_eq_left', exists_eq_left, dl_1, dl_2, eq_nn, ne_nn, rgD_hs, Int.toNat_natCast, List.length_map, cut40]
      refine q _ _ (LiOk.of ho (fun z => ?_) (by omega) hsub) ⟨_, _, rfl⟩
      rw [z] at hlen; simp at hlen; omega
theorem box_liars {g r : Int} {m : Nat} {Q : Res → List Mu → Prop} (h1 : 1 ≤ m) (h2 : m ≤ 12) (q : ∀ (f : List (List Int)) (g' r' : Int), LiOk m f → Q (.val (tF f)) [.lst [.int g', .int r']]) :
    T__law_liars.run [.ext 0, .val (.int m)] [.lst [.int g, .int r]] Q := ⟨m, rfl, h1, h2, ⟨g, r, rfl⟩, fun f xt' hf ⟨g', r', e⟩ => by subst e; exact q f g' r' hf⟩
end Dl
namespace Dl
open PySem L2
/-! ### a history -/
structure HiOk (m : Nat) (f : List (List Int)) (number : Int) (holds s l : List Int) : Prop where
  n0 : 0 ≤ number
  n1 : number < 5
  len : holds.length = m
  le : ∀ h ∈ holds, h ≤ number
  s : ∃ a ∈ f, s.Sublist a
  l : ∃ a ∈ f, l.Sublist a
def hiD (number : Int) (holds s l : List Int) : D := .tuple [.int number, tI holds, tI s, tI l]
def T__law_history : DSp where
  run := fun args xt Q => ∃ (m : Nat) (f : List (List Int)), args = [.ext 0, .val (.int m), .val (tF f)] ∧ 1 ≤ m ∧ m ≤ 12 ∧ LiOk m f ∧ Bx xt ∧ ∀ number holds s l xt', HiOk m f number holds s l → Bx xt' → Q (.val (hiD number holds s l)) xt'
  mono := fun k ⟨m, f, e, h1, h2, h3, b, q⟩ => ⟨m, f, e, h1, h2, h3, b, fun n h s l xt' a c => k _ _ (q n h s l xt' a c)⟩
def r__law_history : RS := dSeq (dAsg (dTup (dCons (dCall T__law_take 2 [true, false] (dCons (dV 0) (dCons (dC (.int 5)) dNil))) (dCons (dCall T__law_drawn_lot 3 [true, false, false] (dCons (dV 0) (dCons (dCall T__law_pick 2 [true, false] (dCons (dV 0) (dCons (dV 2) dNil))) (dCons (dC (.int 2)) dNil)))) dNil))) (.tup [.nm 3, .nm 4])) (dSeq (dAsg (dCB fTuple (dCons (dFz (dLc (dRng1 (dCons (dV 1) dNil)) (.nm 7) dYes (dIf (dAndT (dB (dOp (fIn false) (dV 7) (dV 4))) (dB (dOp fGt (dV 3) (dC (.int 0))))) (dCall T__law_take 2 [true, false] (dCons (dV 0) (dCons (dV 3) dNil))) (dV 3)) [7])) dNil)) (.nm 5)) (dSeq (dAsgLc 6 (dLc (dRng1 (dCons (dC (.int 2)) dNil)) (.nm 8) dYes (dCall T__law_pick 2 [true, false] (dCons (dV 0) (dCons (dFz (dLst (dCons (dCall T__law_pick 2 [true, false] (dCons (dV 0) (dCons (dV 2) dNil))) (dCons (dCall T__law_drawn_lot 3 [true, false, false] (dCons (dV 0) (dCons (dCall T__law_pick 2 [true, false] (dCons (dV 0) (dCons (dV 2) dNil))) (dCons (dC (.int 2)) dNil)))) dNil)))) dNil))) [8])) (dRet (dTup (dCons (dV 3) (dCons (dV 5) (dCons (dOp fIx (dV 6) (dC (.int 0))) (dCons (dOp fIx (dV 6) (dC (.int 1))) dNil))))))))
theorem box_pickF {g r : Int} {m : Nat} {f : List (List Int)} {Q : Res → List Mu → Prop} (h : LiOk m f) (q : ∀ a ∈ f, ∀ g' r' : Int, Q (.val (tI a)) [.lst [.int g', .int r']]) :
    T__law_pick.run [.ext 0, .val (tF f)] [.lst [.int g, .int r]] Q := by
  refine box_pick (ds := f.map tI) rfl ?_ ?_ fun x hx g r => ?_
  · rw [List.length_map]; exact List.length_pos_iff.mpr h.ne
  · rw [List.length_map]; have := h.few; omega
  · obtain ⟨a, ha, rfl⟩ := List.mem_map.mp hx
    exact q a ha g r
theorem pure__law_history : PureOk T__law_history 3 9 r__law_history := by
  rintro _ xt Q _ ⟨m, f, rfl, h1, h2, hf, ⟨g, r, rfl⟩, q⟩
  unfold r__law_history
  simp only [↓e_C, ↓e_V, ↓e_Fz, ↓e_Op, ↓e_Un, ↓e_B, ↓e_Chain, ↓e_AndT, ↓e_OrT, ↓e_NotT, ↓e_AndV, ↓e_OrV, ↓e_NotV, ↓e_If, ↓e_Nil, ↓e_Cons, ↓e_Tup, ↓e_Lst, ↓e_CB, ↓e_CBN, ↓e_Isi, ↓e_TupRg1, ↓e_LstRg1, ↓e_TupRg2, ↓e_LstRg2, ↓e_ScrLen, ↓e_ScrAt, ↓e_SeqI, ↓e_Enum, ↓e_Rng1, ↓e_Rng2, ↓e_Seq, ↓e_Next, ↓e_Break, ↓e_Cont, ↓e_Drop, ↓e_Ret, ↓e_RetN, ↓e_Ret0, ↓e_IfS, ↓e_Asg, ↓e_AsgN, ↓e_AsgLc, ↓e_mNil, ↓e_mVal, ↓e_mNew, ↓e_Par, ↓e_For, ↓e_LoopN, ↓e_LoopC, ↓e_Lc, ↓e_Yes, ↓e_Call, ↓e_CallN, ↓e_Append, ↓e_Extend, ↓e_Pop, ↓e_PopAt, ↓e_SetAt, ↓e_Sl, ↓e_NoP, ↓e_P, ↓e_Aug, ↓e_SrtSet, optP_some, vaP_val, boP_val, inP_val, muP_lst, vals_nil, vals_cons, brP_t, brP_f, brP_d, brP_n, scrOf, rg1, rg2, lstAt, lsOf, nt_of, nt_0, nt_1, slotR, slNew, slMu, slOf, setAll, Dl.En.set, Dl.En.wipe, wipeL, noMu_n, noMu_c, isMu_v, isMu_u, isMu_e, isMu_s, tg_nm, Dl.tg_tup, tgs_nil, tgs_cons, fSl, Rv.d, Rv.m, muD, rvDs, obAt, rvOb, obget_s, obget_e, obput_s, obput_e, put_nil, put_one, conv, argOf, argSlot, argExt, obsMu, seqD, env0, argSl, p_mul, p_mod, p_div, p_pow, p_catT, p_catL, p_maxI, p_minI, List.map_cons, List.map_nil, List.replicate_succ, List.replicate_zero, List.length_cons, List.length_nil, List.nil_append, List.cons_append, List.append_nil, List.getElem?_cons_zero, List.getElem?_cons_succ, List.getElem?_nil, List.set_cons_zero, List.set_cons_succ, List.set_nil, Option.bind_some, Option.bind_none, Option.map_some, Option.map_none, Option.some.injEq, Option.isSome_some, List.all_cons, List.all_nil, List.contains_nil, Bool.and_true, Bool.not_false, Bool.true_and, Rv.val.injEq, PyData.int.injEq, PyData.bool.injEq, PyData.tuple.injEq, PyData.list.injEq, and_assoc, Prod.mk.injEq, reduceCtorEq, Mu.lst.injEq, Int.reducePow, Int.reduceNeg, Int.reduceLT, Int.reduceLE, Int.reduceMul, Int.reduceAdd, Int.reduceSub, Int.reduceToNat, Nat.reduceLT, Nat.reduceLeDiff, Nat.zero_le, or_true, true_or, and_self, not_false_eq_true, forall_const, implies_true, if_true_left, false_or, or_false, p_oD, cut2m, List.all_cons, not_true_eq_false, false_implies, isi_bi, isi_bn, isi_bb, isi_bt, isi_bs, isi_ti, isi_tn, isi_tb, isi_tt, isi_ts, isi_si, isi_sn, isi_sb, isi_st, isi_ss, isi_ii, isi_in, isi_ib, isi_it, isi_is, x_add, x_sub, x_neg, x_lt, x_le, x_gt, x_ge, x_eqI, x_neI, x_is, x_isNot, x_ixL, x_ixT, x_int, x_abs, x_lenL, x_lenT, x_tupL, x_tupT, x_lstL, x_lstT, x_max2, x_min2, at0, at1, at2, at3, atNat, x_inT, x_inL, x_notInT, x_notInL, x_all, x_any, x_sumI, x_nilI, x_nnilI, x_nnilJ, x_eqT, x_neT, x_eqO, x_eqOI, isNone_oD, oD_n, oD_s, decide_eq_true_eq, decide_eq_false_iff_not, true_and, and_true, Nat.sub_self, Nat.reduceSub, Nat.reduceAdd, ite_true, Option.some_inj, eq_self, isNone, Bool.not_true, Int.reduceEq, decide_true, decide_false, exists_eq_left', exists_eq_left, dl_1, dl_2, eq_nn, ne_nn, rgD_hs, Int.toNat_natCast, List.length_map, cut40]
  refine box_take (by omega) (by omega) fun number g r n0 n1 => ?_
  simp only [↓e_C, ↓e_V, ↓e_Fz, ↓e_Op, ↓e_Un, ↓e_B, ↓e_Chain, ↓e_AndT, ↓e_OrT, ↓e_NotT, ↓e_AndV, ↓e_OrV, ↓e_NotV, ↓e_If, ↓e_Nil, ↓e_Cons, ↓e_Tup, ↓e_Lst, ↓e_CB, ↓e_CBN, ↓e_Isi, ↓e_TupRg1, ↓e_LstRg1, ↓e_TupRg2, ↓e_LstRg2, ↓e_ScrLen, ↓e_ScrAt, ↓e_SeqI, ↓e_Enum, ↓e_Rng1, ↓e_Rng2, ↓e_Seq, ↓e_Next, ↓e_Break, ↓e_Cont, ↓e_Drop, ↓e_Ret, ↓e_RetN, ↓e_Ret0, ↓e_IfS, ↓e_Asg, ↓e_AsgN, ↓e_AsgLc, ↓e_mNil, ↓e_mVal, ↓e_mNew, ↓e_Par, ↓e_For, ↓e_LoopN, ↓e_LoopC, ↓e_Lc, ↓e_Yes, ↓e_Call, ↓e_CallN, ↓e_Append, ↓e_Extend, ↓e_Pop, ↓e_PopAt, ↓e_SetAt, ↓e_Sl, ↓e_NoP, ↓e_P, ↓e_Aug, ↓e_SrtSet, optP_some, vaP_val, boP_val, inP_val, muP_lst, vals_nil, vals_cons, brP_t, brP_f, brP_d, brP_n, scrOf, rg1, rg2, lstAt, lsOf, nt_of, nt_0, nt_1, slotR, slNew, slMu, slOf, setAll, Dl.En.set, Dl.En.wipe, wipeL, noMu_n, noMu_c, isMu_v, isMu_u, isMu_e, isMu_s, tg_nm, Dl.tg_tup, tgs_nil, tgs_cons, fSl, Rv.d, Rv.m, muD, rvDs, obAt, rvOb, obget_s, obget_e, obput_s, obput_e, put_nil, put_one, conv, argOf, argSlot, argExt, obsMu, seqD, env0, argSl, p_mul, p_mod, p_div, p_pow, p_catT, p_catL, p_maxI, p_minI, List.map_cons, List.map_nil, List.replicate_succ, List.replicate_zero, List.length_cons, List.length_nil, List.nil_append, List.cons_append, List.append_nil, List.getElem?_cons_zero, List.getElem?_cons_succ, List.getElem?_nil, List.set_cons_zero, List.set_cons_succ, List.set_nil, Option.bind_some, Option.bind_none, Option.map_some, Option.map_none, Option.some.injEq, Option.isSome_some, List.all_cons, List.all_nil, List.contains_nil, Bool.and_true, Bool.not_false, Bool.true_and, Rv.val.injEq, PyData.int.injEq, PyData.bool.injEq, PyData.tuple.injEq, PyData.list.injEq, and_assoc, Prod.mk.injEq, reduceCtorEq, Mu.lst.injEq, Int.reducePow, Int.reduceNeg, Int.reduceLT, Int.reduceLE, Int.reduceMul, Int.reduceAdd, Int.reduceSub, Int.reduceToNat, Nat.reduceLT, Nat.reduceLeDiff, Nat.zero_le, or_true, true_or, and_self, not_false_eq_true, forall_const, implies_true, if_true_left, false_or, or_false, p_oD, cut2m, List.all_cons, not_true_eq_false, false_implies, isi_bi, isi_bn, isi_bb, isi_bt, isi_bs, isi_ti, isi_tn, isi_tb, isi_tt, isi_ts, isi_si, isi_sn, isi_sb, isi_st, isi_ss, isi_ii, isi_in, isi_ib, isi_it, isi_is, x_add, x_sub, x_neg, x_lt, x_le, x_gt, x_ge, x_eqI, x_neI, x_is, x_isNot, x_ixL, x_ixT, x_int, x_abs, x_lenL, x_lenT, x_tupL, x_tupT, x_lstL, x_lstT, x_max2, x_min2, at0, at1, at2, at3, atNat, x_inT, x_inL, x_notInT, x_notInL, x_all, x_any, x_sumI, x_nilI, x_nnilI, x_nnilJ, x_eqT, x_neT, x_eqO, x_eqOI, isNone_oD, oD_n, oD_s, decide_eq_true_eq, decide_eq_false_iff_not, true_and, and_true, Nat.sub_self, Nat.reduceSub, Nat.reduceAdd, ite_true, Option.some_inj, eq_self, isNone, Bool.not_true, Int.reduceEq, decide_true, decide_false, exists_eq_left', exists_eq_left, dl_1, dl_2, eq_nn, ne_nn, rgD_hs, Int.toNat_natCast, List.length_map, cut40]
  refine box_pickF hf fun a ha g r => ?_
  have la := sub_len (hf.sub a ha)
  simp only [↓e_C, ↓e_V, ↓e_Fz, ↓e_Op, ↓e_Un, ↓e_B, ↓e_Chain, ↓e_AndT, ↓e_OrT, ↓e_NotT, ↓e_AndV, ↓e_OrV, ↓e_NotV, ↓e_If, ↓e_Nil, ↓e_Cons, ↓e_Tup, ↓e_Lst, ↓e_CB, ↓e_CBN, ↓e_Isi, ↓e_TupRg1, ↓e_LstRg1, ↓e_TupRg2, ↓e_LstRg2, ↓e_ScrLen, ↓e_ScrAt, ↓e_SeqI, ↓e_Enum, ↓e_Rng1, ↓e_Rng2, ↓e_Seq, ↓e_Next, ↓e_Break, ↓e_Cont, ↓e_Drop, ↓e_Ret, ↓e_RetN, ↓e_Ret0, ↓e_IfS, ↓e_Asg, ↓e_AsgN, ↓e_AsgLc, ↓e_mNil, ↓e_mVal, ↓e_mNew, ↓e_Par, ↓e_For, ↓e_LoopN, ↓e_LoopC, ↓e_Lc, ↓e_Yes, ↓e_Call, ↓e_CallN, ↓e_Append, ↓e_Extend, ↓e_Pop, ↓e_PopAt, ↓e_SetAt, ↓e_Sl, ↓e_NoP, ↓e_P, ↓e_Aug, ↓e_SrtSet, optP_some, vaP_val, boP_val, inP_val, muP_lst, vals_nil, vals_cons, brP_t, brP_f, brP_d, brP_n, scrOf, rg1, rg2, lstAt, lsOf, nt_of, nt_0, nt_1, slotR, slNew, slMu, slOf, setAll, Dl.En.set, Dl.En.wipe, wipeL, noMu_n, noMu_c, isMu_v, isMu_u, isMu_e, isMu_s, tg_nm, Dl.tg_tup, tgs_nil, tgs_cons, fSl, Rv.d, Rv.m, muD, rvDs, obAt, rvOb, obget_s, obget_e, obput_s, obput_e, put_nil, put_one, conv, argOf, argSlot, argExt, obsMu, seqD, env0, argSl, p_mul, p_mod, p_div, p_pow, p_catT, p_catL, p_maxI, p_minI, List.map_cons, List.map_nil, List.replicate_succ, List.replicate_zero, List.length_cons, List.length_nil, List.nil_append, List.cons_append, List.append_nil, List.getElem?_cons_zero, List.getElem?_cons_succ, List.getElem?_nil, List.set_cons_zero, List.set_cons_succ, List.set_nil, Option.bind_some, Option.bind_none, Option.map_some, Option.map_none, Option.some.injEq, Option.isSome_some, List.all_cons, List.all_nil, List.contains_nil, Bool.and_true, Bool.not_false, Bool.true_and, Rv.val.injEq, PyData.int.injEq, PyData.bool.injEq, PyData.tuple.injEq, PyData.list.injEq, and_assoc, Prod.mk.injEq, reduceCtorEq, Mu.lst.injEq, Int.reducePow, Int.reduceNeg, Int.reduceLT, Int.reduceLE, Int.reduceMul, Int.reduceAdd, Int.reduceSub, Int.reduceToNat, Nat.reduceLT, Nat.reduceLeDiff, Nat.zero_le, or_true, true_or, and_self, not_false_eq_true, forall_const, implies_true, if_true_left, false_or, or_false, p_oD, cut2m, List.all_cons, not_true_eq_false, false_implies, isi_bi, isi_bn, isi_bb, isi_bt, isi_bs, isi_ti, isi_tn, isi_tb, isi_tt, isi_ts, isi_si, isi_sn, isi_sb, isi_st, isi_ss, isi_ii, isi_in, isi_ib, isi_it, isi_is, x_add, x_sub, x_neg, x_lt, x_le, x_gt, x_ge, x_eqI, x_neI, x_is, x_isNot, x_ixL, x_ixT, x_int, x_abs, x_lenL, x_lenT, x_tupL, x_tupT, x_lstL, x_lstT, x_max2, x_min2, at0, at1, at2, at3, atNat, x_inT, x_inL, x_notInT, x_notInL, x_all, x_any, x_sumI, x_nilI, x_nnilI, x_nnilJ, x_eqT, x_neT, x_eqO, x_eqOI, isNone_oD, oD_n, oD_s, decide_eq_true_eq, decide_eq_false_iff_not, true_and, and_true, Nat.sub_self, Nat.reduceSub, Nat.reduceAdd, ite_true, Option.some_inj, eq_self, isNone, Bool.not_true, Int.reduceEq, decide_true, decide_false, exists_eq_left', exists_eq_left, dl_1, dl_2, eq_nn, ne_nn, rgD_hs, Int.toNat_natCast, List.length_map, cut40]
  refine box_lot (by omega) (by omega) (by omega) fun missed g r hm => ?_
  simp only [↓e_C, ↓e_V, ↓e_Fz, ↓e_Op, ↓e_Un, ↓e_B, ↓e_Chain, ↓e_AndT, ↓e_OrT, ↓e_NotT, ↓e_AndV, ↓e_OrV, ↓e_NotV, ↓e_If, ↓e_Nil, ↓e_Cons, ↓e_Tup, ↓e_Lst, ↓e_CB, ↓e_CBN, ↓e_Isi, ↓e_TupRg1, ↓e_LstRg1, ↓e_TupRg2, ↓e_LstRg2, ↓e_ScrLen, ↓e_ScrAt, ↓e_SeqI, ↓e_Enum, ↓e_Rng1, ↓e_Rng2, ↓e_Seq, ↓e_Next, ↓e_Break, ↓e_Cont, ↓e_Drop, ↓e_Ret, ↓e_RetN, ↓e_Ret0, ↓e_IfS, ↓e_Asg, ↓e_AsgN, ↓e_AsgLc, ↓e_mNil, ↓e_mVal, ↓e_mNew, ↓e_Par, ↓e_For, ↓e_LoopN, ↓e_LoopC, ↓e_Lc, ↓e_Yes, ↓e_Call, ↓e_CallN, ↓e_Append, ↓e_Extend, ↓e_Pop, ↓e_PopAt, ↓e_SetAt, ↓e_Sl, ↓e_NoP, ↓e_P, ↓e_Aug, ↓e_SrtSet, optP_some, vaP_val, boP_val, inP_val, muP_lst, vals_nil, vals_cons, brP_t, brP_f, brP_d, brP_n, scrOf, rg1, rg2, lstAt, lsOf, nt_of, nt_0, nt_1, slotR, slNew, slMu, slOf, setAll, Dl.En.set, Dl.En.wipe, wipeL, noMu_n, noMu_c, isMu_v, isMu_u, isMu_e, isMu_s, tg_nm, Dl.tg_tup, tgs_nil, tgs_cons, fSl, Rv.d, Rv.m, muD, rvDs, obAt, rvOb, obget_s, obget_e, obput_s, obput_e, put_nil, put_one, conv, argOf, argSlot, argExt, obsMu, seqD, env0, argSl, p_mul, p_mod, p_div, p_pow, p_catT, p_catL, p_maxI, p_minI, List.map_cons, List.map_nil, List.replicate_succ, List.replicate_zero, List.length_cons, List.length_nil, List.nil_append, List.cons_append, List.append_nil, List.getElem?_cons_zero, List.getElem?_cons_succ, List.getElem?_nil, List.set_cons_zero, List.set_cons_succ, List.set_nil, Option.bind_some, Option.bind_none, Option.map_some, Option.map_none, Option.some.injEq, Option.isSome_some, List.all_cons, List.all_nil, List.contains_nil, Bool.and_true, Bool.not_false, Bool.true_and, Rv.val.injEq, PyData.int.injEq, PyData.bool.injEq, PyData.tuple.injEq, PyData.list.injEq, and_assoc, Prod.mk.injEq, reduceCtorEq, Mu.lst.injEq, Int.reducePow, Int.reduceNeg, Int.reduceLT, Int.reduceLE, Int.reduceMul, Int.reduceAdd, Int.reduceSub, Int.reduceToNat, Nat.reduceLT, Nat.reduceLeDiff, Nat.zero_le, or_true, true_or, and_self, not_false_eq_true, forall_const, implies_true, if_true_left, false_or, or_false, p_oD, cut2m, List.all_cons, not_true_eq_false, false_implies, isi_bi, isi_bn, isi_bb, isi_bt, isi_bs, isi_ti, isi_tn, isi_tb, isi_tt, isi_ts, isi_si, isi_sn, isi_sb, isi_st, isi_ss, isi_ii, isi_in, isi_ib, isi_it, isi_is, x_add, x_sub, x_neg, x_lt, x_le, x_gt, x_ge, x_eqI, x_neI, x_is, x_isNot, x_ixL, x_ixT, x_int, x_abs, x_lenL, x_lenT, x_tupL, x_tupT, x_lstL, x_lstT, x_max2, x_min2, at0, at1, at2, at3, atNat, x_inT, x_inL, x_notInT, x_notInL, x_all, x_any, x_sumI, x_nilI, x_nnilI, x_nnilJ, x_eqT, x_neT, x_eqO, x_eqOI, isNone_oD, oD_n, oD_s, decide_eq_true_eq, decide_eq_false_iff_not, true_and, and_true, Nat.sub_self, Nat.reduceSub, Nat.reduceAdd, ite_true, Option.some_inj, eq_self, isNone, Bool.not_true, Int.reduceEq, decide_true, decide_false, exists_eq_left', exists_eq_left, dl_1, dl_2, eq_nn, ne_nn, rgD_hs, Int.toNat_natCast, List.length_map, cut40]
  refine ⟨by omega, by omega, ?_⟩
  refine lcGo_st (enc := PyData.int) (dec := PyData.int) Bx false (fun _ h => h ≤ number) (hsI m) [] _ ⟨_, _, rfl⟩ (by rw [hs_len]; simp; omega) (fun x _ xt hb => ?_) fun holds xt' hs' hb' => ?_
  · obtain ⟨g, r, rfl⟩ := hb
    refine ⟨_, rfl, fun C c1 c2 => ?_⟩
    simp only [↓e_C, ↓e_V, ↓e_Fz, ↓e_Op, ↓e_Un, ↓e_B, ↓e_Chain, ↓e_AndT, ↓e_OrT, ↓e_NotT, ↓e_AndV, ↓e_OrV, ↓e_NotV, ↓e_If, ↓e_Nil, ↓e_Cons, ↓e_Tup, ↓e_Lst, ↓e_CB, ↓e_CBN, ↓e_Isi, ↓e_TupRg1, ↓e_LstRg1, ↓e_TupRg2, ↓e_LstRg2, ↓e_ScrLen, ↓e_ScrAt, ↓e_SeqI, ↓e_Enum, ↓e_Rng1, ↓e_Rng2, ↓e_Seq, ↓e_Next, ↓e_Break, ↓e_Cont, ↓e_Drop, ↓e_Ret, ↓e_RetN, ↓e_Ret0, ↓e_IfS, ↓e_Asg, ↓e_AsgN, ↓e_AsgLc, ↓e_mNil, ↓e_mVal, ↓e_mNew, ↓e_Par, ↓e_For, ↓e_LoopN, ↓e_LoopC, ↓e_Lc, ↓e_Yes, ↓e_Call, ↓e_CallN, ↓e_Append, ↓e_Extend, ↓e_Pop, ↓e_PopAt, ↓e_SetAt, ↓e_Sl, ↓e_NoP, ↓e_P, ↓e_Aug, ↓e_SrtSet, optP_some, vaP_val, boP_val, inP_val, muP_lst, vals_nil, vals_cons, brP_t, brP_f, brP_d, brP_n, scrOf, rg1, rg2, lstAt, lsOf, nt_of, nt_0, nt_1, slotR, slNew, slMu, slOf, setAll, Dl.En.set, Dl.En.wipe, wipeL, noMu_n, noMu_c, isMu_v, isMu_u, isMu_e, isMu_s, tg_nm, Dl.tg_tup, tgs_nil, tgs_cons, fSl, Rv.d, Rv.m, muD, rvDs, obAt, rvOb, obget_s, obget_e, obput_s, obput_e, put_nil, put_one, conv, argOf, argSlot, argExt, obsMu, seqD, env0, argSl, p_mul, p_mod, p_div, p_pow, p_catT, p_catL, p_maxI, p_minI, List.map_cons, List.map_nil, List.replicate_succ, List.replicate_zero, List.length_cons, List.length_nil, List.nil_append, List.cons_append, List.append_nil, List.getElem?_cons_zero, List.getElem?_cons_succ, List.getElem?_nil, List.set_cons_zero, List.set_cons_succ, List.set_nil, Option.bind_some, Option.bind_none, Option.map_some, Option.map_none, Option.some.injEq, Option.isSome_some, List.all_cons, List.all_nil, List.contains_nil, Bool.and_true, Bool.not_false, Bool.true_and, Rv.val.injEq, PyData.int.injEq, PyData.bool.injEq, PyData.tuple.injEq, PyData.list.injEq, and_assoc, Prod.mk.injEq, reduceCtorEq, Mu.lst.injEq, Int.reducePow, Int.reduceNeg, Int.reduceLT, Int.reduceLE, Int.reduceMul, Int.reduceAdd, Int.reduceSub, Int.reduceToNat, Nat.reduceLT, Nat.reduceLeDiff, Nat.zero_le, or_true, true_or, and_self, not_false_eq_true, forall_const, implies_true, if_true_left, false_or, or_false, p_oD, cut2m, List.all_cons, not_true_eq_false, false_implies, isi_bi, isi_bn, isi_bb, isi_bt, isi_bs, isi_ti, isi_tn, isi_tb, isi_tt, isi_ts, isi_si, isi_sn, isi_sb, isi_st, isi_ss, isi_ii, isi_in, isi_ib, isi_it, isi_is, x_add, x_sub, x_neg, x_lt, x_le, x_gt, x_ge, x_eqI, x_neI, x_is, x_isNot, x_ixL, x_ixT, x_int, x_abs, x_lenL, x_lenT, x_tupL, x_tupT, x_lstL, x_lstT, x_max2, x_min2, at0, at1, at2, at3, atNat, x_inT, x_inL, x_notInT, x_notInL, x_all, x_any, x_sumI, x_nilI, x_nnilI, x_nnilJ, x_eqT, x_neT, x_eqO, x_eqOI, isNone_oD, oD_n, oD_s, decide_eq_true_eq, decide_eq_false_iff_not, true_and, and_true, Nat.sub_self, Nat.reduceSub, Nat.reduceAdd, ite_true, Option.some_inj, eq_self, isNone, Bool.not_true, Int.reduceEq, decide_true, decide_false, exists_eq_left', exists_eq_left, dl_1, dl_2, eq_nn, ne_nn, rgD_hs, Int.toNat_natCast, List.length_map, cut40]
    refine ⟨fun _ => ⟨fun h0 => box_take h0 (by omega) fun n g r k0 k1 => ?_, fun _ => ?_⟩, fun _ => ?_⟩
    · simp only [↓e_C, ↓e_V, ↓e_Fz, ↓e_Op, ↓e_Un, ↓e_B, ↓e_Chain, ↓e_AndT, ↓e_OrT, ↓e_NotT, ↓e_AndV, ↓e_OrV, ↓e_NotV, ↓e_If, ↓e_Nil, ↓e_Cons, ↓e_Tup, ↓e_Lst, ↓e_CB, ↓e_CBN, ↓e_Isi, ↓e_TupRg1, ↓e_LstRg1, ↓e_TupRg2, ↓e_LstRg2, ↓e_ScrLen, ↓e_ScrAt, ↓e_SeqI, ↓e_Enum, ↓e_Rng1, ↓e_Rng2, ↓e_Seq, ↓e_Next, ↓e_Break, ↓e_Cont, ↓e_Drop, ↓e_Ret, ↓e_RetN, ↓e_Ret0, ↓e_IfS, ↓e_Asg, ↓e_AsgN, ↓e_AsgLc, ↓e_mNil, ↓e_mVal, ↓e_mNew, ↓e_Par, ↓e_For, ↓e_LoopN, ↓e_LoopC, ↓e_Lc, ↓e_Yes, ↓e_Call, ↓e_CallN, ↓e_Append, ↓e_Extend, ↓e_Pop, ↓e_PopAt, ↓e_SetAt, ↓e_Sl, ↓e_NoP, ↓e_P, ↓e_Aug, ↓e_SrtSet, optP_some, vaP_val, boP_val, inP_val, muP_lst, vals_nil, vals_cons, brP_t, brP_f, brP_d, brP_n, scrOf, rg1, rg2, lstAt, lsOf, nt_of, nt_0, nt_1, slotR, slNew, slMu, slOf, setAll, Dl.En.set, Dl.En.wipe, wipeL, noMu_n, noMu_c, isMu_v, isMu_u, isMu_e, isMu_s, tg_nm, Dl.tg_tup, tgs_nil, tgs_cons, fSl, Rv.d, Rv.m, muD, rvDs, obAt, rvOb, obget_s, obget_e, obput_s, obput_e, put_nil, put_one, conv, argOf, argSlot, argExt, obsMu, seqD, env0, argSl, p_mul, p_mod, p_div, p_pow, p_catT, p_catL, p_maxI, p_minI, List.map_cons, List.map_nil, List.replicate_succ, List.replicate_zero, List.length_cons, List.length_nil, List.nil_append, List.cons_append, List.append_nil, List.getElem?_cons_zero, List.getElem?_cons_succ, List.getElem?_nil, List.set_cons_zero, List.set_cons_succ, List.set_nil, Option.bind_some, Option.bind_none, Option.map_some, Option.map_none, Option.some.injEq, Option.isSome_some, List.all_cons, List.all_nil, List.contains_nil, Bool.and_true, Bool.not_false, Bool.true_and, Rv.val.injEq, PyData.int.injEq, PyData.bool.injEq, PyData.tuple.injEq, PyData.list.injEq, and_assoc, Prod.mk.injEq, reduceCtorEq, Mu.lst.injEq, Int.reducePow, Int.reduceNeg, Int.reduceLT, Int.reduceLE, Int.reduceMul, Int.reduceAdd, Int.reduceSub, Int.reduceToNat, Nat.reduceLT, Nat.reduceLeDiff, Nat.zero_le, or_true, true_or, and_self, not_false_eq_true, forall_const, implies_true, if_true_left, false_or, or_false, p_oD, cut2m, List.all_cons, not_true_eq_false, false_implies, isi_bi, isi_bn, isi_bb, isi_bt, isi_bs, isi_ti, isi_tn, isi_tb, isi_tt, isi_ts, isi_si, isi_sn, isi_sb, isi_st, isi_ss, isi_ii, isi_in, isi_ib, isi_it, isi_is, x_add, x_sub, x_neg, x_lt, x_le, x_gt, x_ge, x_eqI, x_neI, x_is, x_isNot, x_ixL, x_ixT, x_int, x_abs, x_lenL, x_lenT, x_tupL, x_tupT, x_lstL, x_lstT, x_max2, x_min2, at0, at1, at2, at3, atNat, x_inT, x_inL, x_notInT, x_notInL, x_all, x_any, x_sumI, x_nilI, x_nnilI, x_nnilJ, x_eqT, x_neT, x_eqO, x_eqOI, isNone_oD, oD_n, oD_s, decide_eq_true_eq, decide_eq_false_iff_not, true_and, and_true, Nat.sub_self, Nat.reduceSub, Nat.reduceAdd, ite_true, Option.some_inj, eq_self, isNone, Bool.not_true, Int.reduceEq, decide_true, decide_false, exists_eq_left', exists_eq_left, dl_1, dl_2, eq_nn, ne_nn, rgD_hs, Int.toNat_natCast, List.length_map, cut40]
      exact c1 n _ (by omega) ⟨_, _, rfl⟩
    · exact c1 number _ (by omega) ⟨_, _, rfl⟩
    · exact c1 number _ (by omega) ⟨_, _, rfl⟩
  · have hlen := hs'.len
    rw [hs_len] at hlen
    obtain ⟨g, r, rfl⟩ := hb'
    simp only [↓e_C, ↓e_V, ↓e_Fz, ↓e_Op, ↓e_Un, ↓e_B, ↓e_Chain, ↓e_AndT, ↓e_OrT, ↓e_NotT, ↓e_AndV, ↓e_OrV, ↓e_NotV, ↓e_If, ↓e_Nil, ↓e_Cons, ↓e_Tup, ↓e_Lst, ↓e_CB, ↓e_CBN, ↓e_Isi, ↓e_TupRg1, ↓e_LstRg1, ↓e_TupRg2, ↓e_LstRg2, ↓e_ScrLen, ↓e_ScrAt, ↓e_SeqI, ↓e_Enum, ↓e_Rng1, ↓e_Rng2, ↓e_Seq, ↓e_Next, ↓e_Break, ↓e_Cont, ↓e_Drop, ↓e_Ret, ↓e_RetN, ↓e_Ret0, ↓e_IfS, ↓e_Asg, ↓e_AsgN, ↓e_AsgLc, ↓e_mNil, ↓e_mVal, ↓e_mNew, ↓e_Par, ↓e_For, ↓e_LoopN, ↓e_LoopC, ↓e_Lc, ↓e_Yes, ↓e_Call, ↓e_CallN, ↓e_Append, ↓e_Extend, ↓e_Pop, ↓e_PopAt, ↓e_SetAt, ↓e_Sl, ↓e_NoP, ↓e_P, ↓e_Aug, ↓e_SrtSet, optP_some, vaP_val, boP_val, inP_val, muP_lst, vals_nil, vals_cons, brP_t, brP_f, brP_d, brP_n, scrOf, rg1, rg2, lstAt, lsOf, nt_of, nt_0, nt_1, slotR, slNew, slMu, slOf, setAll, Dl.En.set, Dl.En.wipe, wipeL, noMu_n, noMu_c, isMu_v, isMu_u, isMu_e, isMu_s, tg_nm, Dl.tg_tup, tgs_nil, tgs_cons, fSl, Rv.d, Rv.m, muD, rvDs, obAt, rvOb, obget_s, obget_e, obput_s, obput_e, put_nil, put_one, conv, argOf, argSlot, argExt, obsMu, seqD, env0, argSl, p_mul, p_mod, p_div, p_pow, p_catT, p_catL, p_maxI, p_minI, List.map_cons, List.map_nil, List.replicate_succ, List.replicate_zero, List.length_cons, List.length_nil, List.nil_append, List.cons_append, List.append_nil, List.getElem?_cons_zero, List.getElem?_cons_succ, List.getElem?_nil, List.set_cons_zero, List.set_cons_succ, List.set_nil, Option.bind_some, Option.bind_none, Option.map_some, Option.map_none, Option.some.injEq, Option.isSome_some, List.all_cons, List.all_nil, List.contains_nil, Bool.and_true, Bool.not_false, Bool.true_and, Rv.val.injEq, PyData.int.injEq, PyData.bool.injEq, PyData.tuple.injEq, PyData.list.injEq, and_assoc, Prod.mk.injEq, reduceCtorEq, Mu.lst.injEq, Int.reducePow, Int.reduceNeg, Int.reduceLT, Int.reduceLE, Int.reduceMul, Int.reduceAdd, Int.reduceSub, Int.reduceToNat, Nat.reduceLT, Nat.reduceLeDiff, Nat.zero_le, or_true, true_or, and_self, not_false_eq_true, forall_const, implies_true, if_true_left, false_or, or_false, p_oD, cut2m, List.all_cons, not_true_eq_false, false_implies, isi_bi, isi_bn, isi_bb, isi_bt, isi_bs, isi_ti, isi_tn, isi_tb, isi_tt, isi_ts, isi_si, isi_sn, isi_sb, isi_st, isi_ss, isi_ii, isi_in, isi_ib, isi_it, isi_is, x_add, x_sub, x_neg, x_lt, x_le, x_gt, x_ge, x_eqI, x_neI, x_is, x_isNot, x_ixL, x_ixT, x_int, x_abs, x_lenL, x_lenT, x_tupL, x_tupT, x_lstL, x_lstT, x_max2, x_min2, at0, at1, at2, at3, atNat, x_inT, x_inL, x_notInT, x_notInL, x_all, x_any, x_sumI, x_nilI, x_nnilI, x_nnilJ, x_eqT, x_neT, x_eqO, x_eqOI, isNone_oD, oD_n, oD_s, decide_eq_true_eq, decide_eq_false_iff_not, true_and, and_true, Nat.sub_self, Nat.reduceSub, Nat.reduceAdd, ite_true, Option.some_inj, eq_self, isNone, Bool.not_true, Int.reduceEq, decide_true, decide_false, exists_eq_left', exists_eq_left, dl_1, dl_2, eq_nn, ne_nn, rgD_hs, Int.toNat_natCast, List.length_map, cut40]
    refine lcGo_st (enc := PyData.int) (dec := tI) Bx false (fun _ l => ∃ a ∈ f, l.Sublist a) (hsI 2) [] _ ⟨_, _, rfl⟩ (by rw [hs_len]; simp) (fun x _ xt hb => ?_) fun ys xt' hs2 hb' => ?_
    · obtain ⟨g, r, rfl⟩ := hb
      refine ⟨_, rfl, fun C c1 c2 => ?_⟩
      simp only [↓e_C, ↓e_V, ↓e_Fz, ↓e_Op, ↓e_Un, ↓e_B, ↓e_Chain, ↓e_AndT, ↓e_OrT, ↓e_NotT, ↓e_AndV, ↓e_OrV, ↓e_NotV, ↓e_If, ↓e_Nil, ↓e_Cons, ↓e_Tup, ↓e_Lst, ↓e_CB, ↓e_CBN, ↓e_Isi, ↓e_TupRg1, ↓e_LstRg1, ↓e_TupRg2, ↓e_LstRg2, ↓e_ScrLen, ↓e_ScrAt, ↓e_SeqI, ↓e_Enum, ↓e_Rng1, ↓e_Rng2, ↓e_Seq, ↓e_Next, ↓e_Break, ↓e_Cont, ↓e_Drop, ↓e_Ret, ↓e_RetN, ↓e_Ret0, ↓e_IfS, ↓e_Asg, ↓e_AsgN, ↓e_AsgLc, ↓e_mNil, ↓e_mVal, ↓e_mNew, ↓e_Par, ↓e_For, ↓e_LoopN, ↓e_LoopC, ↓e_Lc, ↓e_Yes, ↓e_Call, ↓e_CallN, ↓e_Append, ↓e_Extend, ↓e_Pop, ↓e_PopAt, ↓e_SetAt, ↓e_Sl, ↓e_NoP, ↓e_P, ↓e_Aug, ↓e_SrtSet, optP_some, vaP_val, boP_val, inP_val, muP_lst, vals_nil, vals_cons, brP_t, brP_f, brP_d, brP_n, scrOf, rg1, rg2, lstAt, lsOf, nt_of, nt_0, nt_1, slotR, slNew, slMu, slOf, setAll, Dl.En.set, Dl.En.wipe, wipeL, noMu_n, noMu_c, isMu_v, isMu_u, isMu_e, isMu_s, tg_nm, Dl.tg_tup, tgs_nil, tgs_cons, fSl, Rv.d, Rv.m, muD, rvDs, obAt, rvOb, obget_s, obget_e, obput_s, obput_e, put_nil, put_one, conv, argOf, argSlot, argExt, obsMu, seqD, env0, argSl, p_mul, p_mod, p_div, p_pow, p_catT, p_catL, p_maxI, p_minI, List.map_cons, List.map_nil, List.replicate_succ, List.replicate_zero, List.length_cons, List.length_nil, List.nil_append, List.cons_append, List.append_nil, List.getElem?_cons_zero, List.getElem?_cons_succ, List.getElem?_nil, List.set_cons_zero, List.set_cons_succ, List.set_nil, Option.bind_some, Option.bind_none, Option.map_some, Option.map_none, Option.some.injEq, Option.isSome_some, List.all_cons, List.all_nil, List.contains_nil, Bool.and_true, Bool.not_false, Bool.true_and, Rv.val.injEq, PyData.int.injEq, PyData.bool.injEq, PyData.tuple.injEq, PyData.list.injEq, and_assoc, Prod.mk.injEq, reduceCtorEq, Mu.lst.injEq, Int.reducePow, Int.reduceNeg, Int.reduceLT, Int.reduceLE, Int.reduceMul, Int.reduceAdd, Int.reduceSub, Int.reduceToNat, Nat.reduceLT, Nat.reduceLeDiff, Nat.zero_le, or_true, true_or, and_self, not_false_eq_true, forall_const, implies_true, if_true_left, false_or, or_false, p_oD, cut2m, List.all_cons, not_true_eq_false, false_implies, isi_bi, isi_bn, isi_bb, isi_bt, isi_bs, isi_ti, isi_tn, isi_tb, isi_tt, isi_ts, isi_si, isi_sn, isi_sb, isi_st, isi_ss, isi_ii, isi_in, isi_ib, isi_it, isi_is, x_add, x_sub, x_neg, x_lt, x_le, x_gt, x_ge, x_eqI, x_neI, x_is, x_isNot, x_ixL, x_ixT, x_int, x_abs, x_lenL, x_lenT, x_tupL, x_tupT, x_lstL, x_lstT, x_max2, x_min2, at0, at1, at2, at3, atNat, x_inT, x_inL, x_notInT, x_notInL, x_all, x_any, x_sumI, x_nilI, x_nnilI, x_nnilJ, x_eqT, x_neT, x_eqO, x_eqOI, isNone_oD, oD_n, oD_s, decide_eq_true_eq, decide_eq_false_iff_not, true_and, and_true, Nat.sub_self, Nat.reduceSub, Nat.reduceAdd, ite_true, Option.some_inj, eq_self, isNone, Bool.not_true, Int.reduceEq, decide_true, decide_false, exists_eq_left', exists_eq_left, dl_1, dl_2, eq_nn, ne_nn, rgD_hs, Int.toNat_natCast, List.length_map, cut40]
      refine box_pickF hf fun a ha g r => ?_
      simp only [↓e_C, ↓e_V, ↓e_Fz, ↓e_Op, ↓e_Un, ↓e_B, ↓e_Chain, ↓e_AndT, ↓e_OrT, ↓e_NotT, ↓e_AndV, ↓e_OrV, ↓e_NotV, ↓e_If, ↓e_Nil, ↓e_Cons, ↓e_Tup, ↓e_Lst, ↓e_CB, ↓e_CBN, ↓e_Isi, ↓e_TupRg1, ↓e_LstRg1, ↓e_TupRg2, ↓e_LstRg2, ↓e_ScrLen, ↓e_ScrAt, ↓e_SeqI, ↓e_Enum, ↓e_Rng1, ↓e_Rng2, ↓e_Seq, ↓e_Next, ↓e_Break, ↓e_Cont, ↓e_Drop, ↓e_Ret, ↓e_RetN, ↓e_Ret0, ↓e_IfS, ↓e_Asg, ↓e_AsgN, ↓e_AsgLc, ↓e_mNil, ↓e_mVal, ↓e_mNew, ↓e_Par, ↓e_For, ↓e_LoopN, ↓e_LoopC, ↓e_Lc, ↓e_Yes, ↓e_Call, ↓e_CallN, ↓e_Append, ↓e_Extend, ↓e_Pop, ↓e_PopAt, ↓e_SetAt, ↓e_Sl, ↓e_NoP, ↓e_P, ↓e_Aug, ↓e_SrtSet, optP_some, vaP_val, boP_val, inP_val, muP_lst, vals_nil, vals_cons, brP_t, brP_f, brP_d, brP_n, scrOf, rg1, rg2, lstAt, lsOf, nt_of, nt_0, nt_1, slotR, slNew, slMu, slOf, setAll, Dl.En.set, Dl.En.wipe, wipeL, noMu_n, noMu_c, isMu_v, isMu_u, isMu_e, isMu_s, tg_nm, Dl.tg_tup, tgs_nil, tgs_cons, fSl, Rv.d, Rv.m, muD, rvDs, obAt, rvOb, obget_s, obget_e, obput_s, obput_e, put_nil, put_one, conv, argOf, argSlot, argExt, obsMu, seqD, env0, argSl, p_mul, p_mod, p_div, p_pow, p_catT, p_catL, p_maxI, p_minI, List.map_cons, List.map_nil, List.replicate_succ, List.replicate_zero, List.length_cons, List.length_nil, List.nil_append, List.cons_append, List.append_nil, List.getElem?_cons_zero, List.getElem?_cons_succ, List.getElem?_nil, List.set_cons_zero, List.set_cons_succ, List.set_nil, Option.bind_some, Option.bind_none, Option.map_some, Option.map_none, Option.some.injEq, Option.isSome_some, List.all_cons, List.all_nil, List.contains_nil, Bool.and_true, Bool.not_false, Bool.true_and, Rv.val.injEq, PyData.int.injEq, PyData.bool.injEq, PyData.tuple.injEq, PyData.list.injEq, and_assoc, Prod.mk.injEq, reduceCtorEq, Mu.lst.injEq, Int.reducePow, Int.reduceNeg, Int.reduceLT, Int.reduceLE, Int.reduceMul, Int.reduceAdd, Int.reduceSub, Int.reduceToNat, Nat.reduceLT, Nat.reduceLeDiff, Nat.zero_le, or_true, true_or, and_self, not_false_eq_true, forall_const, implies_true, if_true_left, false_or, or_false, p_oD, cut2m, List.all_cons, not_true_eq_false, false_implies, isi_bi, isi_bn, isi_bb, isi_bt, isi_bs, isi_ti, isi_tn, isi_tb, isi_tt, isi_ts, isi_si, isi_sn, isi_sb, isi_st, isi_ss, isi_ii, isi_in, isi_ib, isi_it, isi_is, x_add, x_sub, x_neg, x_lt, x_le, x_gt, x_ge, x_eqI, x_neI, x_is, x_isNot, x_ixL, x_ixT, x_int, x_abs, x_lenL, x_lenT, x_tupL, x_tupT, x_lstL, x_lstT, x_max2, x_min2, at0, at1, at2, at3, atNat, x_inT, x_inL, x_notInT, x_notInL, x_all, x_any, x_sumI, x_nilI, x_nnilI, x_nnilJ, x_eqT, x_neT, x_eqO, x_eqOI, isNone_oD, oD_n, oD_s, decide_eq_true_eq, decide_eq_false_iff_not, true_and, and_true, Nat.sub_self, Nat.reduceSub, Nat.reduceAdd, ite_true, Option.some_inj, eq_self, isNone, Bool.not_true, Int.reduceEq, decide_true, decide_false, exists_eq_left', exists_eq_left, dl_1, dl_2, eq_nn, ne_nn, rgD_hs, Int.toNat_natCast, List.length_map, cut40]
      refine box_pickF hf fun b hb g r => ?_
      have lb := sub_len (hf.sub b hb)
      simp only [↓e_C, ↓e_V, ↓e_Fz, ↓e_Op, ↓e_Un, ↓e_B, ↓e_Chain, ↓e_AndT, ↓e_OrT, ↓e_NotT, ↓e_AndV, ↓e_OrV, ↓e_NotV, ↓e_If, ↓e_Nil, ↓e_Cons, ↓e_Tup, ↓e_Lst, ↓e_CB, ↓e_CBN, ↓e_Isi, ↓e_TupRg1, ↓e_LstRg1, ↓e_TupRg2, ↓e_LstRg2, ↓e_ScrLen, ↓e_ScrAt, ↓e_SeqI, ↓e_Enum, ↓e_Rng1, ↓e_Rng2, ↓e_Seq, ↓e_Next, ↓e_Break, ↓e_Cont, ↓e_Drop, ↓e_Ret, ↓e_RetN, ↓e_Ret0, ↓e_IfS, ↓e_Asg, ↓e_AsgN, ↓e_AsgLc, ↓e_mNil, ↓e_mVal, ↓e_mNew, ↓e_Par, ↓e_For, ↓e_LoopN, ↓e_LoopC, ↓e_Lc, ↓e_Yes, ↓e_Call, ↓e_CallN, ↓e_Append, ↓e_Extend, ↓e_Pop, ↓e_PopAt, ↓e_SetAt, ↓e_Sl, ↓e_NoP, ↓e_P, ↓e_Aug, ↓e_SrtSet, optP_some, vaP_val, boP_val, inP_val, muP_lst, vals_nil, vals_cons, brP_t, brP_f, brP_d, brP_n, scrOf, rg1, rg2, lstAt, lsOf, nt_of, nt_0, nt_1, slotR, slNew, slMu, slOf, setAll, Dl.En.set, Dl.En.wipe, wipeL, noMu_n, noMu_c, isMu_v, isMu_u, isMu_e, isMu_s, tg_nm, Dl.tg_tup, tgs_nil, tgs_cons, fSl, Rv.d, Rv.m, muD, rvDs, obAt, rvOb, obget_s, obget_e, obput_s, obput_e, put_nil, put_one, conv, argOf, argSlot, argExt, obsMu, seqD, env0, argSl, p_mul, p_mod, p_div, p_pow, p_catT, p_catL, p_maxI, p_minI, List.map_cons, List.map_nil, List.replicate_succ, List.replicate_zero, List.length_cons, List.length_nil, List.nil_append, List.cons_append, List.append_nil, List.getElem?_cons_zero, List.getElem?_cons_succ, List.getElem?_nil, List.set_cons_zero, List.set_cons_succ, List.set_nil, Option.bind_some, Option.bind_none, Option.map_some, Option.map_none, Option.some.injEq, Option.isSome_some, List.all_cons, List.all_nil, List.contains_nil, Bool.and_true, Bool.not_false, Bool.true_and, Rv.val.injEq, PyData.int.injEq, PyData.bool.injEq, PyData.tuple.injEq, PyData.list.injEq, and_assoc, Prod.mk.injEq, reduceCtorEq, Mu.lst.injEq, Int.reducePow, Int.reduceNeg, Int.reduceLT, Int.reduceLE, Int.reduceMul, Int.reduceAdd, Int.reduceSub, Int.reduceToNat, Nat.reduceLT, Nat.reduceLeDiff, Nat.zero_le, or_true, true_or, and_self, not_false_eq_true, forall_const, implies_true, if_true_left, false_or, or_false, p_oD, cut2m, List.all_cons, not_true_eq_false, false_implies, isi_bi, isi_bn, isi_bb, isi_bt, isi_bs, isi_ti, isi_tn, isi_tb, isi_tt, isi_ts, isi_si, isi_sn, isi_sb, isi_st, isi_ss, isi_ii, isi_in, isi_ib, isi_it, isi_is, x_add, x_sub, x_neg, x_lt, x_le, x_gt, x_ge, x_eqI, x_neI, x_is, x_isNot, x_ixL, x_ixT, x_int, x_abs, x_lenL, x_lenT, x_tupL, x_tupT, x_lstL, x_lstT, x_max2, x_min2, at0, at1, at2, at3, atNat, x_inT, x_inL, x_notInT, x_notInL, x_all, x_any, x_sumI, x_nilI, x_nnilI, x_nnilJ, x_eqT, x_neT, x_eqO, x_eqOI, isNone_oD, oD_n, oD_s, decide_eq_true_eq, decide_eq_false_iff_not, true_and, and_true, Nat.sub_self, Nat.reduceSub, Nat.reduceAdd, ite_true, Option.some_inj, eq_self, isNone, Bool.not_true, Int.reduceEq, decide_true, decide_false, exists_eq_left', exists_eq_left, dl_1, dl_2, eq_nn, ne_nn, rgD_hs, Int.toNat_natCast, List.length_map, cut40]
      refine box_lot (by omega) (by omega) (by omega) fun c g r hc => ?_
      simp only [↓e_C, ↓e_V, ↓e_Fz, ↓e_Op, ↓e_Un, ↓e_B, ↓e_Chain, ↓e_AndT, ↓e_OrT, ↓e_NotT, ↓e_AndV, ↓e_OrV, ↓e_NotV, ↓e_If, ↓e_Nil, ↓e_Cons, ↓e_Tup, ↓e_Lst, ↓e_CB, ↓e_CBN, ↓e_Isi, ↓e_TupRg1, ↓e_LstRg1, ↓e_TupRg2, ↓e_LstRg2, ↓e_ScrLen, ↓e_ScrAt, ↓e_SeqI, ↓e_Enum, ↓e_Rng1, ↓e_Rng2, ↓e_Seq, ↓e_Next, ↓e_Break, ↓e_Cont, ↓e_Drop, ↓e_Ret, ↓e_RetN, ↓e_Ret0, ↓e_IfS, ↓e_Asg, ↓e_AsgN, ↓e_AsgLc, ↓e_mNil, ↓e_mVal, ↓e_mNew, ↓e_Par, ↓e_For, ↓e_LoopN, ↓e_LoopC, ↓e_Lc, ↓e_Yes, ↓e_Call, ↓e_CallN, ↓e_Append, ↓e_Extend, ↓e_Pop, ↓e_PopAt, ↓e_SetAt, ↓e_Sl, ↓e_NoP, ↓e_P, ↓e_Aug, ↓e_SrtSet, optP_some, vaP_val, boP_val, inP_val, muP_lst, vals_nil, vals_cons, brP_t, brP_f, brP_d, brP_n, scrOf, rg1, rg2, lstAt, lsOf, nt_of, nt_0, nt_1, slotR, slNew, slMu, slOf, setAll, Dl.En.set, Dl.En.wipe, wipeL, noMu_n, noMu_c, isMu_v, isMu_u, isMu_e, isMu_s, tg_nm, Dl.tg_tup, tgs_nil, tgs_cons, fSl, Rv.d, Rv.m, muD, rvDs, obAt, rvOb, obget_s, obget_e, obput_s, obput_e, put_nil, put_one, conv, argOf, argSlot, argExt, obsMu, seqD, env0, argSl, p_mul, p_mod, p_div, p_pow, p_catT, p_catL, p_maxI, p_minI, List.map_cons, List.map_nil, List.replicate_succ, List.replicate_zero, List.length_cons, List.length_nil, List.nil_append, List.cons_append, List.append_nil, List.getElem?_cons_zero, List.getElem?_cons_succ, List.getElem?_nil, List.set_cons_zero, List.set_cons_succ, List.set_nil, Option.bind_some, Option.bind_none, Option.map_some, Option.map_none, Option.some.injEq, Option.isSome_some, List.all_cons, List.all_nil, List.contains_nil, Bool.and_true, Bool.not_false, Bool.true_and, Rv.val.injEq, PyData.int.injEq, PyData.bool.injEq, PyData.tuple.injEq, PyData.list.injEq, and_assoc, Prod.mk.injEq, reduceCtorEq, Mu.lst.injEq, Int.reducePow, Int.reduceNeg, Int.reduceLT, Int.reduceLE, Int.reduceMul, Int.reduceAdd, Int.reduceSub, Int.reduceToNat, Nat.reduceLT, Nat.reduceLeDiff, Nat.zero_le, or_true, true_or, and_self, not_false_eq_true, forall_const, implies_true, if_true_left, false_or, or_false, p_oD, cut2m, List.all_cons, not_true_eq_false, false_implies, isi_bi, isi_bn, isi_bb, isi_bt, isi_bs, isi_ti, isi_tn, isi_tb, isi_tt, isi_ts, isi_si, isi_sn, isi_sb, isi_st, isi_ss, isi_ii, isi_in, isi_ib, isi_it, isi_is, x_add, x_sub, x_neg, x_lt, x_le, x_gt, x_ge, x_eqI, x_neI, x_is, x_isNot, x_ixL, x_ixT, x_int, x_abs, x_lenL, x_lenT, x_tupL, x_tupT, x_lstL, x_lstT, x_max2, x_min2, at0, at1, at2, at3, atNat, x_inT, x_inL, x_notInT, x_notInL, x_all, x_any, x_sumI, x_nilI, x_nnilI, x_nnilJ, x_eqT, x_neT, x_eqO, x_eqOI, isNone_oD, oD_n, oD_s, decide_eq_true_eq, decide_eq_false_iff_not, true_and, and_true, Nat.sub_self, Nat.reduceSub, Nat.reduceAdd, ite_true, Option.some_inj, eq_self, isNone, Bool.not_true, Int.reduceEq, decide_true, decide_false, exists_eq_left', exists_eq_left, dl_1, dl_2, eq_nn, ne_nn, rgD_hs, Int.toNat_natCast, List.length_map, cut40]
      refine box_pick rfl (by simp) (by simp) fun p hp g r => ?_
      have hp' : ∃ l : List Int, p = tI l ∧ ∃ a ∈ f, l.Sublist a := by
        simp only [List.mem_cons, List.not_mem_nil, or_false] at hp
        rcases hp with rfl | rfl
        · exact ⟨a, rfl, a, ha, List.Sublist.refl _⟩
        · exact ⟨c, rfl, b, hb, hc⟩
      obtain ⟨l, rfl, hl⟩ := hp'
      simp only [↓e_C, ↓e_V, ↓e_Fz, ↓e_Op, ↓e_Un, ↓e_B, ↓e_Chain, ↓e_AndT, ↓e_OrT, ↓e_NotT, ↓e_AndV, ↓e_OrV, ↓e_NotV, ↓e_If, ↓e_Nil, ↓e_Cons, ↓e_Tup, ↓e_Lst, ↓e_CB, ↓e_CBN, ↓e_Isi, ↓e_TupRg1, ↓e_LstRg1, ↓e_TupRg2, ↓e_LstRg2, ↓e_ScrLen, ↓e_ScrAt, ↓e_SeqI, ↓e_Enum, ↓e_Rng1, ↓e_Rng2, ↓e_Seq, ↓e_Next, ↓e_Break, ↓e_Cont, ↓e_Drop, ↓e_Ret, ↓e_RetN, ↓e_Ret0, ↓e_IfS, ↓e_Asg, ↓e_AsgN, ↓e_AsgLc, ↓e_mNil, ↓e_mVal, ↓e_mNew, ↓e_Par, ↓e_For, ↓e_LoopN, ↓e_LoopC, ↓e_Lc, ↓e_Yes, ↓e_Call, ↓e_CallN, ↓e_Append, ↓e_Extend, ↓e_Pop, ↓e_PopAt, ↓e_SetAt, ↓e_Sl, ↓e_NoP, ↓e_P, ↓e_Aug, ↓e_SrtSet, optP_some, vaP_val, boP_val, inP_val, muP_lst, vals_nil, vals_cons, brP_t, brP_f, brP_d, brP_n, scrOf, rg1, rg2, lstAt, lsOf, nt_of, nt_0, nt_1, slotR, slNew, slMu, slOf, setAll, Dl.En.set, Dl.En.wipe, wipeL, noMu_n, noMu_c, isMu_v, isMu_u, isMu_e, isMu_s, tg_nm, Dl.tg_tup, tgs_nil, tgs_cons, fSl, Rv.d, Rv.m, muD, rvDs, obAt, rvOb, obget_s, obget_e, obput_s, obput_e, put_nil, put_one, conv, argOf, argSlot, argExt, obsMu, seqD, env0, argSl, p_mul, p_mod, p_div, p_pow, p_catT, p_catL, p_maxI, p_minI, List.map_cons, List.map_nil, List.replicate_succ, List.replicate_zero, List.length_cons, List.length_nil, List.nil_append, List.cons_append, List.append_nil, List.getElem?_cons_zero, List.getElem?_cons_succ, List.getElem?_nil, List.set_cons_zero, List.set_cons_succ, List.set_nil, Option.bind_some, Option.bind_none, Option.map_some, Option.map_none, Option.some.injEq, Option.isSome_some, List.all_cons, List.all_nil, List.contains_nil, Bool.and_true, Bool.not_false, Bool.true_and, Rv.val.injEq, PyData.int.injEq, PyData.bool.injEq, PyData.tuple.injEq, PyData.list.injEq, and_assoc, Prod.mk.injEq, reduceCtorEq, Mu.lst.injEq, Int.reducePow, Int.reduceNeg, Int.reduceLT, Int.reduceLE, Int.reduceMul, Int.reduceAdd, Int.reduceSub, Int.reduceToNat, Nat.reduceLT, Nat.reduceLeDiff, Nat.zero_le, or_true, true_or, and_self, not_false_eq_true, forall_const, implies_true, if_true_left, false_or, or_false, p_oD, cut2m, List.all_cons, not_true_eq_false, false_implies, isi_bi, isi_bn, isi_bb, isi_bt, isi_bs, isi_ti, isi_tn, isi_tb, isi_tt, isi_ts, isi_si, isi_sn, isi_sb, isi_st, isi_ss, isi_ii, isi_in, isi_ib, isi_it, isi_is, x_add, x_sub, x_neg, x_lt, x_le, x_gt, x_ge, x_eqI, x_neI, x_is, x_isNot, x_ixL, x_ixT, x_int, x_abs, x_lenL, x_lenT, x_tupL, x_tupT, x_lstL, x_lstT, x_max2, x_min2, at0, at1, at2, at3, atNat, x_inT, x_inL, x_notInT, x_notInL, x_all, x_any, x_sumI, x_nilI, x_nnilI, x_nnilJ, x_eqT, x_neT, x_eqO, x_eqOI, isNone_oD, oD_n, oD_s, decide_eq_true_eq, decide_eq_false_iff_not, true_and, and_true, Nat.sub_self, Nat.reduceSub, Nat.reduceAdd, ite_true, Option.some_inj, eq_self, isNone, Bool.not_true, Int.reduceEq, decide_true, decide_false, exists_eq_left', exists_eq_left, dl_1, dl_2, eq_nn, ne_nn, rgD_hs, Int.toNat_natCast, List.length_map, cut40]
      exact c1 l _ hl ⟨_, _, rfl⟩
    · have hl2 := hs2.len
      rw [hs_len] at hl2
      obtain ⟨s, l, rfl⟩ : ∃ s l, ys = [s, l] := by
        match ys, hl2 with
        | [s, l], _ => exact ⟨s, l, rfl⟩
      simp only [↓e_C, ↓e_V, ↓e_Fz, ↓e_Op, ↓e_Un, ↓e_B, ↓e_Chain, ↓e_AndT, ↓e_OrT, ↓e_NotT, ↓e_AndV, ↓e_OrV, ↓e_NotV, ↓e_If, ↓e_Nil, ↓e_Cons, ↓e_Tup, ↓e_Lst, ↓e_CB, ↓e_CBN, ↓e_Isi, ↓e_TupRg1, ↓e_LstRg1, ↓e_TupRg2, ↓e_LstRg2, ↓e_ScrLen, ↓e_ScrAt, ↓e_SeqI, ↓e_Enum, ↓e_Rng1, ↓e_Rng2, ↓e_Seq, ↓e_Next, ↓e_Break, ↓e_Cont, ↓e_Drop, ↓e_Ret, ↓e_RetN, ↓e_Ret0, ↓e_IfS, ↓e_Asg, ↓e_AsgN, ↓e_AsgLc, ↓e_mNil, ↓e_mVal, ↓e_mNew, ↓e_Par, ↓e_For, ↓e_LoopN, ↓e_LoopC, ↓e_Lc, ↓e_Yes, ↓e_Call, ↓e_CallN, ↓e_Append, ↓e_Extend, ↓e_Pop, ↓e_PopAt, ↓e_SetAt, ↓e_Sl, ↓e_NoP, ↓e_P, ↓e_Aug, ↓e_SrtSet, optP_some, vaP_val, boP_val, inP_val, muP_lst, vals_nil, vals_cons, brP_t, brP_f, brP_d, brP_n, scrOf, rg1, rg2, lstAt, lsOf, nt_of, nt_0, nt_1, slotR, slNew, slMu, slOf, setAll, Dl.En.set, Dl.En.wipe, wipeL, noMu_n, noMu_c, isMu_v, isMu_u, isMu_e, isMu_s, tg_nm, Dl.tg_tup, tgs_nil, tgs_cons, fSl, Rv.d, Rv.m, muD, rvDs, obAt, rvOb, obget_s, obget_e, obput_s, obput_e, put_nil, put_one, conv, argOf, argSlot, argExt, obsMu, seqD, env0, argSl, p_mul, p_mod, p_div, p_pow, p_catT, p_catL, p_maxI, p_minI, List.map_cons, List.map_nil, List.replicate_succ, List.replicate_zero, List.length_cons, List.length_nil, List.nil_append, List.cons_append, List.append_nil, List.getElem?_cons_zero, List.getElem?_cons_succ, List.getElem?_nil, List.set_cons_zero, List.set_cons_succ, List.set_nil, Option.bind_some, Option.bind_none, Option.map_some, Option.map_none, Option.some.injEq, Option.isSome_some, List.all_cons, List.all_nil, List.contains_nil, Bool.and_true, Bool.not_false, Bool.true_and, Rv.val.injEq, PyData.int.injEq, PyData.bool.injEq, PyData.tuple.injEq, PyData.list.injEq, and_assoc, Prod.mk.injEq, reduceCtorEq, Mu.lst.injEq, Int.reducePow, Int.reduceNeg, Int.reduceLT, Int.reduceLE, Int.reduceMul, Int.reduceAdd, Int.reduceSub, Int.reduceToNat, Nat.reduceLT, Nat.reduceLeDiff, Nat.zero_le, or_true, true_or, and_self, not_false_eq_true, forall_const, implies_true, if_true_left, false_or, or_false, p_oD, cut2m, List.all_cons, not_true_eq_false, false_implies, isi_bi, isi_bn, isi_bb, isi_bt, isi_bs, isi_ti, isi_tn, isi_tb, isi_tt, isi_ts, isi_si, isi_sn, isi_sb, isi_st, isi_ss, isi_ii, isi_in, isi_ib, isi_it, isi_is, x_add, x_sub, x_neg, x_lt, x_le, x_gt, x_ge, x_eqI, x_neI, x_is, x_isNot, x_ixL, x_ixT, x_int, x_abs, x_lenL, x_lenT, x_tupL, x_tupT, x_lstL, x_lstT, x_max2, x_min2, at0, at1, at2, at3, atNat, x_inT, x_inL, x_notInT, x_notInL, x_all, x_any, x_sumI, x_nilI, x_nnilI, x_nnilJ, x_eqT, x_neT, x_eqO, x_eqOI, isNone_oD, oD_n, oD_s, decide_eq_true_eq, decide_eq_false_iff_not, true_and, and_true, Nat.sub_self, Nat.reduceSub, Nat.reduceAdd, ite_true, Option.some_inj, eq_self, isNone, Bool.not_true, Int.reduceEq, decide_true, decide_false, exists_eq_left', exists_eq_left, dl_1, dl_2, eq_nn, ne_nn, rgD_hs, Int.toNat_natCast, List.length_map, cut40]
      exact q number holds s l xt' ⟨n0, n1, hlen, fun h hh => by obtain ⟨_, _, z⟩ := hs'.mem h hh; exact z, by obtain ⟨_, _, z⟩ := hs2.mem s (by simp); exact z, by obtain ⟨_, _, z⟩ := hs2.mem l (by simp); exact z⟩ hb'
theorem box_history {g r : Int} {m : Nat} {f : List (List Int)} {Q : Res → List Mu → Prop} (h1 : 1 ≤ m) (h2 : m ≤ 12) (hf : LiOk m f) (q : ∀ number holds s l (g' r' : Int), HiOk m f number holds s l → Q (.val (hiD number holds s l)) [.lst [.int g', .int r']]) :
    T__law_history.run [.ext 0, .val (.int m), .val (tF f)] [.lst [.int g, .int r]] Q := ⟨m, f, rfl, h1, h2, hf, ⟨g, r, rfl⟩, fun n h s l xt' hh ⟨g', r', e⟩ => by subst e; exact q n h s l g' r' hh⟩
/-! ### what is told -/
abbrev tO (told : List (Option Int)) : D := .tuple (told.map oD)
structure Td (number : Int) (holds s l : List Int) (sg : Bool) (j : Nat) (o : Option Int) : Prop where
  si : (j : Int) ∈ s → o = none
  ho : (j : Int) ∉ s → (j : Int) ∉ l → o = holds[j]?
  gr : sg = true → ∀ x, o = some x → x ≤ number
structure TdOk (number : Int) (holds s l : List Int) (sg : Bool) (told : List (Option Int)) : Prop where
  len : told.length = holds.length
  td : ∀ (j : Nat) (o : Option Int), told[j]? = some o → Td number holds s l sg j o
def T__law_told_by : DSp where
  run := fun args xt Q => ∃ (number : Int) (holds s l : List Int) (sg : Bool), args = [.ext 0, .val (hiD number holds s l), .val (.bool sg)] ∧ 0 ≤ number ∧ number < 100 ∧ holds.length ≤ 100 ∧ (∀ h ∈ holds, h ≤ number) ∧ Bx xt ∧
    ∀ told xt', TdOk number holds s l sg told → Bx xt' → Q (.val (tO told)) xt'
  mono := fun k ⟨n, h, s, l, sg, e, h1, h2, h3, h4, b, q⟩ => ⟨n, h, s, l, sg, e, h1, h2, h3, h4, b, fun t xt' a c => k _ _ (q t xt' a c)⟩
def r__law_told_by : RS := dSeq (dAsg (dV 1) (.tup [.nm 3, .nm 4, .nm 5, .nm 6])) (dSeq (dPar [7, 8] (dmVal (dCall T__law_take 2 [true, false] (dCons (dV 0) (dCons (dC (.int 3)) dNil))) (dmNew (dLst dNil) dmNil))) (dSeq (dFor (dRng1 (dCons (dCB fLen (dCons (dV 4) dNil)) dNil)) (.nm 9) (dIfS (dB (dOp (fIn false) (dV 9) (dV 5))) (dDrop (dAppend 8 (dC .none))) (dIfS (dB (dOp (fIn false) (dV 9) (dV 6))) (dSeq (dAsg (dOp fIx (dFz (dLst (dCons (dCall T__law_pick 2 [true, false] (dCons (dV 0) (dCons (dFz (dLst (dCons (dC .none) (dCons (dC (.int 0)) (dCons (dOp fAdd (dV 3) (dC (.int 1))) (dCons (dCall T__law_take 2 [true, false] (dCons (dV 0) (dCons (dC (.int 9)) dNil))) dNil)))))) dNil))) (dCons (dOp fAdd (dV 3) (dC (.int 1))) (dCons (dCall T__law_take 2 [true, false] (dCons (dV 0) (dCons (dOp fAdd (dV 3) (dC (.int 1))) dNil))) dNil))))) (dV 7)) (.nm 10)) (dDrop (dAppend 8 (dIf (dOrT (dB (dOp fIs0 (dV 10) (dC .none))) (dNotT (dB (dV 2)))) (dV 10) (dCB fMin2 (dCons (dV 10) (dCons (dV 3) dNil))))))) (dDrop (dAppend 8 (dOp fIx (dV 4) (dV 9))))))) (dRet (dCB fTuple (dCons (dV 8) dNil)))))
theorem TdOk.app {number : Int} {holds s l : List Int} {sg : Bool} {told : List (Option Int)} {n : Nat} {o : Option Int} (hl : told.length = n) (h : ∀ (j : Nat) (o : Option Int), told[j]? = some o → Td number holds s l sg j o) (ho : Td number holds s l sg n o) :
    ∀ (j : Nat) (o' : Option Int), (told ++ [o])[j]? = some o' → Td number holds s l sg j o' := fun j o' e => by
  rcases Nat.lt_trichotomy j told.length with c | c | c
  · rw [List.getElem?_append_left c] at e; exact h j o' e
  · subst c
    rw [List.getElem?_append_right (Nat.le_refl _), Nat.sub_self] at e
    cases e
    rw [hl]; exact ho
  · rw [List.getElem?_append_right (by omega)] at e
    obtain ⟨k, hk⟩ : ∃ k, j - told.length = k + 1 := ⟨j - told.length - 1, by omega⟩
    rw [hk] at e; cases e
theorem oD_app (told : List (Option Int)) (o : Option Int) : told.map oD ++ [oD o] = (told ++ [o]).map oD := by simp
theorem pure__law_told_by : PureOk T__law_told_by 3 11 r__law_told_by := by
  rintro _ xt Q _ ⟨number, holds, s, l, sg, rfl, h1, h2, h3, h4, ⟨g, r, rfl⟩, q⟩
  unfold r__law_told_by hiD
  simp only [↓e_C, ↓e_V, ↓e_Fz, ↓e_Op, ↓e_Un, ↓e_B, ↓e_Chain, ↓e_AndT, ↓e_OrT, ↓e_NotT, ↓e_AndV, ↓e_OrV, ↓e_NotV, ↓e_If, ↓e_Nil, ↓e_Cons, ↓e_Tup, ↓e_Lst, ↓e_CB, ↓e_CBN, ↓e_Isi, ↓e_TupRg1, ↓e_LstRg1, ↓e_TupRg2, ↓e_LstRg2, ↓e_ScrLen, ↓e_ScrAt, ↓e_SeqI, ↓e_Enum, ↓e_Rng1, ↓e_Rng2, ↓e_Seq, ↓e_Next, ↓e_Break, ↓e_Cont, ↓e_Drop, ↓e_Ret, ↓e_RetN, ↓e_Ret0, ↓e_IfS, ↓e_Asg, ↓e_AsgN, ↓e_AsgLc, ↓e_mNil, ↓e_mVal, ↓e_mNew, ↓e_Par, ↓e_For, ↓e_LoopN, ↓e_LoopC, ↓e_Lc, ↓e_Yes, ↓e_Call, ↓e_CallN, ↓e_Append, ↓e_Extend, ↓e_Pop, ↓e_PopAt, ↓e_SetAt, ↓e_Sl, ↓e_NoP, ↓e_P, ↓e_Aug, ↓e_SrtSet, optP_some, vaP_val, boP_val, inP_val, muP_lst, vals_nil, vals_cons, brP_t, brP_f, brP_d, brP_n, scrOf, rg1, rg2, lstAt, lsOf, nt_of, nt_0, nt_1, slotR, slNew, slMu, slOf, setAll, Dl.En.set, Dl.En.wipe, wipeL, noMu_n, noMu_c, isMu_v, isMu_u, isMu_e, isMu_s, tg_nm, Dl.tg_tup, tgs_nil, tgs_cons, fSl, Rv.d, Rv.m, muD, rvDs, obAt, rvOb, obget_s, obget_e, obput_s, obput_e, put_nil, put_one, conv, argOf, argSlot, argExt, obsMu, seqD, env0, argSl, p_mul, p_mod, p_div, p_pow, p_catT, p_catL, p_maxI, p_minI, List.map_cons, List.map_nil, List.replicate_succ, List.replicate_zero, List.length_cons, List.length_nil, List.nil_append, List.cons_append, List.append_nil, List.getElem?_cons_zero, List.getElem?_cons_succ, List.getElem?_nil, List.set_cons_zero, List.set_cons_succ, List.set_nil, Option.bind_some, Option.bind_none, Option.map_some, Option.map_none, Option.some.injEq, Option.isSome_some, List.all_cons, List.all_nil, List.contains_nil, Bool.and_true, Bool.not_false, Bool.true_and, Rv.val.injEq, PyData.int.injEq, PyData.bool.injEq, PyData.tuple.injEq, PyData.list.injEq, and_assoc, Prod.mk.injEq, reduceCtorEq, Mu.lst.injEq, Int.reducePow, Int.reduceNeg, Int.reduceLT, Int.reduceLE, Int.reduceMul, Int.reduceAdd, Int.reduceSub, Int.reduceToNat, Nat.reduceLT, Nat.reduceLeDiff, Nat.zero_le, or_true, true_or, and_self, not_false_eq_true, forall_const, implies_true, if_true_left, false_or, or_false, p_oD, cut2m, List.all_cons, not_true_eq_false, false_implies, isi_bi, isi_bn, isi_bb, isi_bt, isi_bs, isi_ti, isi_tn, isi_tb, isi_tt, isi_ts, isi_si, isi_sn, isi_sb, isi_st, isi_ss, isi_ii, isi_in, isi_ib, isi_it, isi_is, x_add, x_sub, x_neg, x_lt, x_le, x_gt, x_ge, x_eqI, x_neI, x_is, x_isNot, x_ixL, x_ixT, x_int, x_abs, x_lenL, x_lenT, x_tupL, x_tupT, x_lstL, x_lstT, x_max2, x_min2, at0, at1, at2, at3, atNat, x_inT, x_inL, x_notInT, x_notInL, x_all, x_any, x_sumI, x_nilI, x_nnilI, x_nnilJ, x_eqT, x_neT, x_eqO, x_eqOI, isNone_oD, oD_n, oD_s, decide_eq_true_eq, decide_eq_false_iff_not, true_and, and_true, Nat.sub_self, Nat.reduceSub, Nat.reduceAdd, ite_true, Option.some_inj, eq_self, isNone, Bool.not_true, Int.reduceEq, decide_true, decide_false, exists_eq_left', exists_eq_left, dl_1, dl_2, eq_nn, ne_nn, rgD_hs, Int.toNat_natCast, List.length_map, cut40]
  refine box_take (by omega) (by omega) fun way g r w0 w1 => ?_
  simp only [↓e_C, ↓e_V, ↓e_Fz, ↓e_Op, ↓e_Un, ↓e_B, ↓e_Chain, ↓e_AndT, ↓e_OrT, ↓e_NotT, ↓e_AndV, ↓e_OrV, ↓e_NotV, ↓e_If, ↓e_Nil, ↓e_Cons, ↓e_Tup, ↓e_Lst, ↓e_CB, ↓e_CBN, ↓e_Isi, ↓e_TupRg1, ↓e_LstRg1, ↓e_TupRg2, ↓e_LstRg2, ↓e_ScrLen, ↓e_ScrAt, ↓e_SeqI, ↓e_Enum, ↓e_Rng1, ↓e_Rng2, ↓e_Seq, ↓e_Next, ↓e_Break, ↓e_Cont, ↓e_Drop, ↓e_Ret, ↓e_RetN, ↓e_Ret0, ↓e_IfS, ↓e_Asg, ↓e_AsgN, ↓e_AsgLc, ↓e_mNil, ↓e_mVal, ↓e_mNew, ↓e_Par, ↓e_For, ↓e_LoopN, ↓e_LoopC, ↓e_Lc, ↓e_Yes, ↓e_Call, ↓e_CallN, ↓e_Append, ↓e_Extend, ↓e_Pop, ↓e_PopAt, ↓e_SetAt, ↓e_Sl, ↓e_NoP, ↓e_P, ↓e_Aug, ↓e_SrtSet, optP_some, vaP_val, boP_val, inP_val, muP_lst, vals_nil, vals_cons, brP_t, brP_f, brP_d, brP_n, scrOf, rg1, rg2, lstAt, lsOf, nt_of, nt_0, nt_1, slotR, slNew, slMu, slOf, setAll, Dl.En.set, Dl.En.wipe, wipeL, noMu_n, noMu_c, isMu_v, isMu_u, isMu_e, isMu_s, tg_nm, Dl.tg_tup, tgs_nil, tgs_cons, fSl, Rv.d, Rv.m, muD, rvDs, obAt, rvOb, obget_s, obget_e, obput_s, obput_e, put_nil, put_one, conv, argOf, argSlot, argExt, obsMu, seqD, env0, argSl, p_mul, p_mod, p_div, p_pow, p_catT, p_catL, p_maxI, p_minI, List.map_cons, List.map_nil, List.replicate_succ, List.replicate_zero, List.length_cons, List.length_nil, List.nil_append, List.cons_append, List.append_nil, List.getElem?_cons_zero, List.getElem?_cons_succ, List.getElem?_nil, List.set_cons_zero, List.set_cons_succ, List.set_nil, Option.bind_some, Option.bind_none, Option.map_some, Option.map_none, Option.some.injEq, Option.isSome_some, List.all_cons, List.all_nil, List.contains_nil, Bool.and_true, Bool.not_false, Bool.true_and, Rv.val.injEq, PyData.int.injEq, PyData.bool.injEq, PyData.tuple.injEq, PyData.list.injEq, and_assoc, Prod.mk.injEq, reduceCtorEq, Mu.lst.injEq, Int.reducePow, Int.reduceNeg, Int.reduceLT, Int.reduceLE, Int.reduceMul, Int.reduceAdd, Int.reduceSub, Int.reduceToNat, Nat.reduceLT, Nat.reduceLeDiff, Nat.zero_le, or_true, true_or, and_self, not_false_eq_true, forall_const, implies_true, if_true_left, false_or, or_false, p_oD, cut2m, List.all_cons, not_true_eq_false, false_implies, isi_bi, isi_bn, isi_bb, isi_bt, isi_bs, isi_ti, isi_tn, isi_tb, isi_tt, isi_ts, isi_si, isi_sn, isi_sb, isi_st, isi_ss, isi_ii, isi_in, isi_ib, isi_it, isi_is, x_add, x_sub, x_neg, x_lt, x_le, x_gt, x_ge, x_eqI, x_neI, x_is, x_isNot, x_ixL, x_ixT, x_int, x_abs, x_lenL, x_lenT, x_tupL, x_tupT, x_lstL, x_lstT, x_max2, x_min2, at0, at1, at2, at3, atNat, x_inT, x_inL, x_notInT, x_notInL, x_all, x_any, x_sumI, x_nilI, x_nnilI, x_nnilJ, x_eqT, x_neT, x_eqO, x_eqOI, isNone_oD, oD_n, oD_s, decide_eq_true_eq, decide_eq_false_iff_not, true_and, and_true, Nat.sub_self, Nat.reduceSub, Nat.reduceAdd, ite_true, Option.some_inj, eq_self, isNone, Bool.not_true, Int.reduceEq, decide_true, decide_false, exists_eq_left', exists_eq_left, dl_1, dl_2, eq_nn, ne_nn, rgD_hs, Int.toNat_natCast, List.length_map, cut40]
  refine ⟨by omega, by omega, ?_⟩
  refine loop_inv (enc := PyData.int) (fun done rest env => ∃ (told : List (Option Int)) (s9 s10 : Sl) (g r : Int), done ++ rest = hsI holds.length ∧ told.length = done.length ∧ (∀ (j : Nat) (o : Option Int), told[j]? = some o → Td number holds s l sg j o) ∧
      (match s9 with | .mu _ => False | _ => True) ∧ (match s10 with | .mu _ => False | _ => True) ∧
      env = ⟨[.ext 0, .val (hiD number holds s l), .val (.bool sg), .val (.int number), .val (tI holds), .val (tI s), .val (tI l), .val (.int way), .mu (.lst (told.map oD)), s9, s10], [.lst [.int g, .int r]]⟩) (hsI holds.length) [] _ ?_ ?_
      ⟨[], .un, .un, _, _, rfl, rfl, fun j o e => by simp at e, trivial, trivial, rfl⟩
  · rintro done x rest env ⟨told, s9, s10, g, r, e1, hl, ht, k9, k10, rfl⟩
    have hd : done.length < holds.length := by have := congrArg List.length e1; rw [hs_len, List.length_append, List.length_cons] at this; omega
    have hx : x = (done.length : Nat) := by
      have := congrArg (fun l : List Int => l[done.length]?) e1
      simp only [List.getElem?_append_right (Nat.le_refl _), Nat.sub_self, List.getElem?_cons_zero] at this
      unfold hsI at this
      rw [List.getElem?_map, List.getElem?_range hd] at this
      exact Option.some.inj this
    subst hx
    have hlt : told.length < 10000 := by omega
    refine ⟨_, by simp only [↓e_C, ↓e_V, ↓e_Fz, ↓e_Op, ↓e_Un, ↓e_B, ↓e_Chain, ↓e_AndT, ↓e_OrT, ↓e_NotT, ↓e_AndV, ↓e_OrV, ↓e_NotV, ↓e_If, ↓e_Nil, ↓e_Cons, ↓e_Tup, ↓e_Lst, ↓e_CB, ↓e_CBN, ↓e_Isi, ↓e_TupRg1, ↓e_LstRg1, ↓e_TupRg2, ↓e_LstRg2, ↓e_ScrLen, ↓e_ScrAt, ↓e_SeqI, ↓e_Enum, ↓e_Rng1, ↓e_Rng2, ↓e_Seq, ↓e_Next, ↓e_Break, ↓e_Cont, ↓e_Drop, ↓e_Ret, ↓e_RetN, ↓e_Ret0, ↓e_IfS, ↓e_Asg, ↓e_AsgN, ↓e_AsgLc, ↓e_mNil, ↓e_mVal, ↓e_mNew, ↓e_Par, ↓e_For, ↓e_LoopN, ↓e_LoopC, ↓e_Lc, ↓e_Yes, ↓e_Call, ↓e_CallN, ↓e_Append, ↓e_Extend, ↓e_Pop, ↓e_PopAt, ↓e_SetAt, ↓e_Sl, ↓e_NoP, ↓e_P, ↓e_Aug, ↓e_SrtSet, optP_some, vaP_val, boP_val, inP_val, muP_lst, vals_nil, vals_cons, brP_t, brP_f, brP_d, brP_n, scrOf, rg1, rg2, lstAt, lsOf, nt_of, nt_0, nt_1, slotR, slNew, slMu, slOf, setAll, Dl.En.set, Dl.En.wipe, wipeL, noMu_n, noMu_c, isMu_v, isMu_u, isMu_e, isMu_s, tg_nm, Dl.tg_tup, tgs_nil, tgs_cons, fSl, Rv.d, Rv.m, muD, rvDs, obAt, rvOb, obget_s, obget_e, obput_s, obput_e, put_nil, put_one, conv, argOf, argSlot, argExt, obsMu, seqD, env0, argSl, p_mul, p_mod, p_div, p_pow, p_catT, p_catL, p_maxI, p_minI, List.map_cons, List.map_nil, List.replicate_succ, List.replicate_zero, List.length_cons, List.length_nil, List.nil_append, List.cons_append, List.append_nil, List.getElem?_cons_zero, List.getElem?_cons_succ, List.getElem?_nil, List.set_cons_zero, List.set_cons_succ, List.set_nil, Option.bind_some, Option.bind_none, Option.map_some, Option.map_none, Option.some.injEq, Option.isSome_some, List.all_cons, List.all_nil, List.contains_nil, Bool.and_true, Bool.not_false, Bool.true_and, Rv.val.injEq, PyData.int.injEq, PyData.bool.injEq, PyData.tuple.injEq, PyData.list.injEq, and_assoc, Prod.mk.injEq, reduceCtorEq, Mu.lst.injEq, Int.reducePow, Int.reduceNeg, Int.reduceLT, Int.reduceLE, Int.reduceMul, Int.reduceAdd, Int.reduceSub, Int.reduceToNat, Nat.reduceLT, Nat.reduceLeDiff, Nat.zero_le, or_true, true_or, and_self, not_false_eq_true, forall_const, implies_true, if_true_left, false_or, or_false, p_oD, cut2m, List.all_cons, not_true_eq_false, false_implies, isi_bi, isi_bn, isi_bb, isi_bt, isi_bs, isi_ti, isi_tn, isi_tb, isi_tt, isi_ts, isi_si, isi_sn, isi_sb, isi_st, isi_ss, isi_ii, isi_in, isi_ib, isi_it, isi_is, x_add, x_sub, x_neg, x_lt, x_le, x_gt, x_ge, x_eqI, x_neI, x_is, x_isNot, x_ixL, x_ixT, x_int, x_abs, x_lenL, x_lenT, x_tupL, x_tupT, x_lstL, x_lstT, x_max2, x_min2, at0, at1, at2, at3, atNat, x_inT, x_inL, x_notInT, x_notInL, x_all, x_any, x_sumI, x_nilI, x_nnilI, x_nnilJ, x_eqT, x_neT, x_eqO, x_eqOI, isNone_oD, oD_n, oD_s, decide_eq_true_eq, decide_eq_false_iff_not, true_and, and_true, Nat.sub_self, Nat.reduceSub, Nat.reduceAdd, ite_true, Option.some_inj, eq_self, isNone, Bool.not_true, Int.reduceEq, decide_true, decide_false, exists_eq_left', exists_eq_left, dl_1, dl_2, eq_nn, ne_nn, rgD_hs, Int.toNat_natCast, List.length_map, cut40]; rfl, fun N hN => ?_⟩
    have fin : ∀ (o : Option Int) (k9 k10 : Sl) (g r : Int), Td number holds s l sg done.length o → (match k9 with | .mu _ => False | _ => True) → (match k10 with | .mu _ => False | _ => True) →
        N ⟨[.ext 0, .val (hiD number holds s l), .val (.bool sg), .val (.int number), .val (tI holds), .val (tI s), .val (tI l), .val (.int way), .mu (.lst (told.map oD ++ [oD o])), k9, k10], [.lst [.int g, .int r]]⟩ := fun o k9 k10 g r h q9 q10 =>
      hN _ ⟨told ++ [o], k9, k10, g, r, by simpa using e1, by simp [hl], TdOk.app hl ht h, q9, q10, by rw [oD_app]⟩
    unfold hiD at fin ⊢
    simp only [↓e_C, ↓e_V, ↓e_Fz, ↓e_Op, ↓e_Un, ↓e_B, ↓e_Chain, ↓e_AndT, ↓e_OrT, ↓e_NotT, ↓e_AndV, ↓e_OrV, ↓e_NotV, ↓e_If, ↓e_Nil, ↓e_Cons, ↓e_Tup, ↓e_Lst, ↓e_CB, ↓e_CBN, ↓e_Isi, ↓e_TupRg1, ↓e_LstRg1, ↓e_TupRg2, ↓e_LstRg2, ↓e_ScrLen, ↓e_ScrAt, ↓e_SeqI, ↓e_Enum, ↓e_Rng1, ↓e_Rng2, ↓e_Seq, ↓e_Next, ↓e_Break, ↓e_Cont, ↓e_Drop, ↓e_Ret, ↓e_RetN, ↓e_Ret0, ↓e_IfS, ↓e_Asg, ↓e_AsgN, ↓e_AsgLc, ↓e_mNil, ↓e_mVal, ↓e_mNew, ↓e_Par, ↓e_For, ↓e_LoopN, ↓e_LoopC, ↓e_Lc, ↓e_Yes, ↓e_Call, ↓e_CallN, ↓e_Append, ↓e_Extend, ↓e_Pop, ↓e_PopAt, ↓e_SetAt, ↓e_Sl, ↓e_NoP, ↓e_P, ↓e_Aug, ↓e_SrtSet, optP_some, vaP_val, boP_val, inP_val, muP_lst, vals_nil, vals_cons, brP_t, brP_f, brP_d, brP_n, scrOf, rg1, rg2, lstAt, lsOf, nt_of, nt_0, nt_1, slotR, slNew, slMu, slOf, setAll, Dl.En.set, Dl.En.wipe, wipeL, noMu_n, noMu_c, isMu_v, isMu_u, isMu_e, isMu_s, tg_nm, Dl.tg_tup, tgs_nil, tgs_cons, fSl, Rv.d, Rv.m, muD, rvDs, obAt, rvOb, obget_s, obget_e, obput_s, obput_e, put_nil, put_one, conv, argOf, argSlot, argExt, obsMu, seqD, env0, argSl, p_mul, p_mod, p_div, p_pow, p_catT, p_catL, p_maxI, p_minI, List.map_cons, List.map_nil, List.replicate_succ, List.replicate_zero, List.length_cons, List.length_nil, List.nil_append, List.cons_append, List.append_nil, List.getElem?_cons_zero, List.getElem?_cons_succ, List.getElem?_nil, List.set_cons_zero, List.set_cons_succ, List.set_nil, Option.bind_some, Option.bind_none, Option.map_some, Option.map_none, Option.some.injEq, Option.isSome_some, List.all_cons, List.all_nil, List.contains_nil, Bool.and_true, Bool.not_false, Bool.true_and, Rv.val.injEq, PyData.int.injEq, PyData.bool.injEq, PyData.tuple.injEq, PyData.list.injEq, and_assoc, Prod.mk.injEq, reduceCtorEq, Mu.lst.injEq, Int.reducePow, Int.reduceNeg, Int.reduceLT, Int.reduceLE, Int.reduceMul, Int.reduceAdd, Int.reduceSub, Int.reduceToNat, Nat.reduceLT, Nat.reduceLeDiff, Nat.zero_le, or_true, true_or, and_self, not_false_eq_true, forall_const, implies_true, if_true_left, false_or, or_false, p_oD, cut2m, List.all_cons, not_true_eq_false, false_implies, isi_bi, isi_bn, isi_bb, isi_bt, isi_bs, isi_ti, isi_tn, isi_tb, isi_tt, isi_ts, isi_si, isi_sn, isi_sb, isi_st, isi_ss, isi_ii, isi_in, isi_ib, isi_it, isi_is, x_add, x_sub, x_neg, x_lt, x_le, x_gt, x_ge, x_eqI, x_neI, x_is, x_isNot, x_ixL, x_ixT, x_int, x_abs, x_lenL, x_lenT, x_tupL, x_tupT, x_lstL, x_lstT, x_max2, x_min2, at0, at1, at2, at3, atNat, x_inT, x_inL, x_notInT, x_notInL, x_all, x_any, x_sumI, x_nilI, x_nnilI, x_nnilJ, x_eqT, x_neT, x_eqO, x_eqOI, isNone_oD, oD_n, oD_s, decide_eq_true_eq, decide_eq_false_iff_not, true_and, and_true, Nat.sub_self, Nat.reduceSub, Nat.reduceAdd, ite_true, Option.some_inj, eq_self, isNone, Bool.not_true, Int.reduceEq, decide_true, decide_false, exists_eq_left', exists_eq_left, dl_1, dl_2, eq_nn, ne_nn, rgD_hs, Int.toNat_natCast, List.length_map, cut40]
    refine ⟨fun hs => ⟨hlt, fin none _ _ _ _ ⟨fun _ => rfl, fun z => absurd (by simpa using hs) z, fun _ x z => nomatch z⟩ trivial k10⟩, fun hs => ⟨fun hin => ?_, fun hin => ?_⟩⟩
    · refine box_take (by omega) (by omega) fun n9 g r a0 a1 => ?_
      simp only [↓e_C, ↓e_V, ↓e_Fz, ↓e_Op, ↓e_Un, ↓e_B, ↓e_Chain, ↓e_AndT, ↓e_OrT, ↓e_NotT, ↓e_AndV, ↓e_OrV, ↓e_NotV, ↓e_If, ↓e_Nil, ↓e_Cons, ↓e_Tup, ↓e_Lst, ↓e_CB, ↓e_CBN, ↓e_Isi, ↓e_TupRg1, ↓e_LstRg1, ↓e_TupRg2, ↓e_LstRg2, ↓e_ScrLen, ↓e_ScrAt, ↓e_SeqI, ↓e_Enum, ↓e_Rng1, ↓e_Rng2, ↓e_Seq, ↓e_Next, ↓e_Break, ↓e_Cont, ↓e_Drop, ↓e_Ret, ↓e_RetN, ↓e_Ret0, ↓e_IfS, ↓e_Asg, ↓e_AsgN, ↓e_AsgLc, ↓e_mNil, ↓e_mVal, ↓e_mNew, ↓e_Par, ↓e_For, ↓e_LoopN, ↓e_LoopC, ↓e_Lc, ↓e_Yes, ↓e_Call, ↓e_CallN, ↓e_Append, ↓e_Extend, ↓e_Pop, ↓e_PopAt, ↓e_SetAt, ↓e_Sl, ↓e_NoP, ↓e_P, ↓e_Aug, ↓e_SrtSet, optP_some, vaP_val, boP_val, inP_val, muP_lst, vals_nil, vals_cons, brP_t, brP_f, brP_d, brP_n, scrOf, rg1, rg2, lstAt, lsOf, nt_of, nt_0, nt_1, slotR, slNew, slMu, slOf, setAll, Dl.En.set, Dl.En.wipe, wipeL, noMu_n, noMu_c, isMu_v, isMu_u, isMu_e, isMu_s, tg_nm, Dl.tg_tup, tgs_nil, tgs_cons, fSl, Rv.d, Rv.m, muD, rvDs, obAt, rvOb, obget_s, obget_e, obput_s, obput_e, put_nil, put_one, conv, argOf, argSlot, argExt, obsMu, seqD, env0, argSl, p_mul, p_mod, p_div, p_pow, p_catT, p_catL, p_maxI, p_minI, List.map_cons, List.map_nil, List.replicate_succ, List.replicate_zero, List.length_cons, List.length_nil, List.nil_append, List.cons_append, List.append_nil, List.getElem?_cons_zero, List.getElem?_cons_succ, List.getElem?_nil, List.set_cons_zero, List.set_cons_succ, List.set_nil, Option.bind_some, Option.bind_none, Option.map_some, Option.map_none, Option.some.injEq, Option.isSome_some, List.all_cons, List.all_nil, List.contains_nil, Bool.and_true, Bool.not_false, Bool.true_and, Rv.val.injEq, PyData.int.injEq, PyData.bool.injEq, PyData.tuple.injEq, PyData.list.injEq, and_assoc, Prod.mk.injEq, reduceCtorEq, Mu.lst.injEq, Int.reducePow, Int.reduceNeg, Int.reduceLT, Int.reduceLE, Int.reduceMul, Int.reduceAdd, Int.reduceSub, Int.reduceToNat, Nat.reduceLT, Nat.reduceLeDiff, Nat.zero_le, or_true, true_or, and_self, not_false_eq_true, forall_const, implies_true, if_true_left, false_or, or_false, p_oD, cut2m, List.all_cons, not_true_eq_false, false_implies, isi_bi, isi_bn, isi_bb, isi_bt, isi_bs, isi_ti, isi_tn, isi_tb, isi_tt, isi_ts, isi_si, isi_sn, isi_sb, isi_st, isi_ss, isi_ii, isi_in, isi_ib, isi_it, isi_is, x_add, x_sub, x_neg, x_lt, x_le, x_gt, x_ge, x_eqI, x_neI, x_is, x_isNot, x_ixL, x_ixT, x_int, x_abs, x_lenL, x_lenT, x_tupL, x_tupT, x_lstL, x_lstT, x_max2, x_min2, at0, at1, at2, at3, atNat, x_inT, x_inL, x_notInT, x_notInL, x_all, x_any, x_sumI, x_nilI, x_nnilI, x_nnilJ, x_eqT, x_neT, x_eqO, x_eqOI, isNone_oD, oD_n, oD_s, decide_eq_true_eq, decide_eq_false_iff_not, true_and, and_true, Nat.sub_self, Nat.reduceSub, Nat.reduceAdd, ite_true, Option.some_inj, eq_self, isNone, Bool.not_true, Int.reduceEq, decide_true, decide_false, exists_eq_left', exists_eq_left, dl_1, dl_2, eq_nn, ne_nn, rgD_hs, Int.toNat_natCast, List.length_map, cut40]
      refine box_pick rfl (by simp) (by simp) fun p hp g r => ?_
      have hp' : ∃ o : Option Int, p = oD o := by
        simp only [List.mem_cons, List.not_mem_nil, or_false] at hp
        rcases hp with rfl | rfl | rfl | rfl
        · exact ⟨none, rfl⟩
        · exact ⟨some 0, rfl⟩
        · exact ⟨some (number + 1), rfl⟩
        · exact ⟨some n9, rfl⟩
      obtain ⟨o, rfl⟩ := hp'
      simp only [↓e_C, ↓e_V, ↓e_Fz, ↓e_Op, ↓e_Un, ↓e_B, ↓e_Chain, ↓e_AndT, ↓e_OrT, ↓e_NotT, ↓e_AndV, ↓e_OrV, ↓e_NotV, ↓e_If, ↓e_Nil, ↓e_Cons, ↓e_Tup, ↓e_Lst, ↓e_CB, ↓e_CBN, ↓e_Isi, ↓e_TupRg1, ↓e_LstRg1, ↓e_TupRg2, ↓e_LstRg2, ↓e_ScrLen, ↓e_ScrAt, ↓e_SeqI, ↓e_Enum, ↓e_Rng1, ↓e_Rng2, ↓e_Seq, ↓e_Next, ↓e_Break, ↓e_Cont, ↓e_Drop, ↓e_Ret, ↓e_RetN, ↓e_Ret0, ↓e_IfS, ↓e_Asg, ↓e_AsgN, ↓e_AsgLc, ↓e_mNil, ↓e_mVal, ↓e_mNew, ↓e_Par, ↓e_For, ↓e_LoopN, ↓e_LoopC, ↓e_Lc, ↓e_Yes, ↓e_Call, ↓e_CallN, ↓e_Append, ↓e_Extend, ↓e_Pop, ↓e_PopAt, ↓e_SetAt, ↓e_Sl, ↓e_NoP, ↓e_P, ↓e_Aug, ↓e_SrtSet, optP_some, vaP_val, boP_val, inP_val, muP_lst, vals_nil, vals_cons, brP_t, brP_f, brP_d, brP_n, scrOf, rg1, rg2, lstAt, lsOf, nt_of, nt_0, nt_1, slotR, slNew, slMu, slOf, setAll, Dl.En.set, Dl.En.wipe, wipeL, noMu_n, noMu_c, isMu_v, isMu_u, isMu_e, isMu_s, tg_nm, Dl.tg_tup, tgs_nil, tgs_cons, fSl, Rv.d, Rv.m, muD, rvDs, obAt, rvOb, obget_s, obget_e, obput_s, obput_e, put_nil, put_one, conv, argOf, argSlot, argExt, obsMu, seqD, env0, argSl, p_mul, p_mod, p_div, p_pow, p_catT, p_catL, p_maxI, p_minI, List.map_cons, List.map_nil, List.replicate_succ, List.replicate_zero, List.length_cons, List.length_nil, List.nil_append, List.cons_append, List.append_nil, List.getElem?_cons_zero, List.getElem?_cons_succ, List.getElem?_nil, List.set_cons_zero, List.set_cons_succ, List.set_nil, Option.bind_some, Option.bind_none, Option.map_some, Option.map_none, Option.some.injEq, Option.isSome_some, List.all_cons, List.all_nil, List.contains_nil, Bool.and_true, Bool.not_false, Bool.true_and, Rv.val.injEq, PyData.int.injEq, PyData.bool.injEq, PyData.tuple.injEq, PyData.list.injEq, and_assoc, Prod.mk.injEq, reduceCtorEq, Mu.lst.injEq, Int.reducePow, Int.reduceNeg, Int.reduceLT, Int.reduceLE, Int.reduceMul, Int.reduceAdd, Int.reduceSub, Int.reduceToNat, Nat.reduceLT, Nat.reduceLeDiff, Nat.zero_le, or_true, true_or, and_self, not_false_eq_true, forall_const, implies_true, if_true_left, false_or, or_false, p_oD, cut2m, List.all_cons, not_true_eq_false, false_implies, isi_bi, isi_bn, isi_bb, isi_bt, isi_bs, isi_ti, isi_tn, isi_tb, isi_tt, isi_ts, isi_si, isi_sn, isi_sb, isi_st, isi_ss, isi_ii, isi_in, isi_ib, isi_it, isi_is, x_add, x_sub, x_neg, x_lt, x_le, x_gt, x_ge, x_eqI, x_neI, x_is, x_isNot, x_ixL, x_ixT, x_int, x_abs, x_lenL, x_lenT, x_tupL, x_tupT, x_lstL, x_lstT, x_max2, x_min2, at0, at1, at2, at3, atNat, x_inT, x_inL, x_notInT, x_notInL, x_all, x_any, x_sumI, x_nilI, x_nnilI, x_nnilJ, x_eqT, x_neT, x_eqO, x_eqOI, isNone_oD, oD_n, oD_s, decide_eq_true_eq, decide_eq_false_iff_not, true_and, and_true, Nat.sub_self, Nat.reduceSub, Nat.reduceAdd, ite_true, Option.some_inj, eq_self, isNone, Bool.not_true, Int.reduceEq, decide_true, decide_false, exists_eq_left', exists_eq_left, dl_1, dl_2, eq_nn, ne_nn, rgD_hs, Int.toNat_natCast, List.length_map, cut40]
      refine box_take (by omega) (by omega) fun n1 g r b0 b1 => ?_
      have hs' : (done.length : Int) ∉ s := by simpa using hs
      have hin' : (done.length : Int) ∈ l := by simpa using hin
      have key : ∃ o', atI [oD o, PyData.int (number + 1), PyData.int n1] way = some (oD o') := by
        have : way = 0 ∨ way = 1 ∨ way = 2 := by omega
        rcases this with rfl | rfl | rfl
        · exact ⟨o, by rw [at0]⟩
        · exact ⟨some (number + 1), by rw [at1]; rfl⟩
        · exact ⟨some n1, by rw [at2]; rfl⟩
      obtain ⟨o', ho'⟩ := key
      simp only [↓e_C, ↓e_V, ↓e_Fz, ↓e_Op, ↓e_Un, ↓e_B, ↓e_Chain, ↓e_AndT, ↓e_OrT, ↓e_NotT, ↓e_AndV, ↓e_OrV, ↓e_NotV, ↓e_If, ↓e_Nil, ↓e_Cons, ↓e_Tup, ↓e_Lst, ↓e_CB, ↓e_CBN, ↓e_Isi, ↓e_TupRg1, ↓e_LstRg1, ↓e_TupRg2, ↓e_LstRg2, ↓e_ScrLen, ↓e_ScrAt, ↓e_SeqI, ↓e_Enum, ↓e_Rng1, ↓e_Rng2, ↓e_Seq, ↓e_Next, ↓e_Break, ↓e_Cont, ↓e_Drop, ↓e_Ret, ↓e_RetN, ↓e_Ret0, ↓e_IfS, ↓e_Asg, ↓e_AsgN, ↓e_AsgLc, ↓e_mNil, ↓e_mVal, ↓e_mNew, ↓e_Par, ↓e_For, ↓e_LoopN, ↓e_LoopC, ↓e_Lc, ↓e_Yes, ↓e_Call, ↓e_CallN, ↓e_Append, ↓e_Extend, ↓e_Pop, ↓e_PopAt, ↓e_SetAt, ↓e_Sl, ↓e_NoP, ↓e_P, ↓e_Aug, ↓e_SrtSet, optP_some, vaP_val, boP_val, inP_val, muP_lst, vals_nil, vals_cons, brP_t, brP_f, brP_d, brP_n, scrOf, rg1, rg2, lstAt, lsOf, nt_of, nt_0, nt_1, slotR, slNew, slMu, slOf, setAll, Dl.En.set, Dl.En.wipe, wipeL, noMu_n, noMu_c, isMu_v, isMu_u, isMu_e, isMu_s, tg_nm, Dl.tg_tup, tgs_nil, tgs_cons, fSl, Rv.d, Rv.m, muD, rvDs, obAt, rvOb, obget_s, obget_e, obput_s, obput_e, put_nil, put_one, conv, argOf, argSlot, argExt, obsMu, seqD, env0, argSl, p_mul, p_mod, p_div, p_pow, p_catT, p_catL, p_maxI, p_minI, List.map_cons, List.map_nil, List.replicate_succ, List.replicate_zero, List.length_cons, List.length_nil, List.nil_append, List.cons_append, List.append_nil, List.getElem?_cons_zero, List.getElem?_cons_succ, List.getElem?_nil, List.set_cons_zero, List.set_cons_succ, List.set_nil, Option.bind_some, Option.bind_none, Option.map_some, Option.map_none, Option.some.injEq, Option.isSome_some, List.all_cons, List.all_nil, List.contains_nil, Bool.and_true, Bool.not_false, Bool.true_and, Rv.val.injEq, PyData.int.injEq, PyData.bool.injEq, PyData.tuple.injEq, PyData.list.injEq, and_assoc, Prod.mk.injEq, reduceCtorEq, Mu.lst.injEq, Int.reducePow, Int.reduceNeg, Int.reduceLT, Int.reduceLE, Int.reduceMul, Int.reduceAdd, Int.reduceSub, Int.reduceToNat, Nat.reduceLT, Nat.reduceLeDiff, Nat.zero_le, or_true, true_or, and_self, not_false_eq_true, forall_const, implies_true, if_true_left, false_or, or_false, p_oD, cut2m, List.all_cons, not_true_eq_false, false_implies, isi_bi, isi_bn, isi_bb, isi_bt, isi_bs, isi_ti, isi_tn, isi_tb, isi_tt, isi_ts, isi_si, isi_sn, isi_sb, isi_st, isi_ss, isi_ii, isi_in, isi_ib, isi_it, isi_is, x_add, x_sub, x_neg, x_lt, x_le, x_gt, x_ge, x_eqI, x_neI, x_is, x_isNot, x_ixL, x_ixT, x_int, x_abs, x_lenL, x_lenT, x_tupL, x_tupT, x_lstL, x_lstT, x_max2, x_min2, at0, at1, at2, at3, atNat, x_inT, x_inL, x_notInT, x_notInL, x_all, x_any, x_sumI, x_nilI, x_nnilI, x_nnilJ, x_eqT, x_neT, x_eqO, x_eqOI, isNone_oD, oD_n, oD_s, decide_eq_true_eq, decide_eq_false_iff_not, true_and, and_true, Nat.sub_self, Nat.reduceSub, Nat.reduceAdd, ite_true, Option.some_inj, eq_self, isNone, Bool.not_true, Int.reduceEq, decide_true, decide_false, exists_eq_left', exists_eq_left, dl_1, dl_2, eq_nn, ne_nn, rgD_hs, Int.toNat_natCast, List.length_map, cut40]
      refine optP_i ho' ?_
      cases o' with
      | none =>
        simp only [↓e_C, ↓e_V, ↓e_Fz, ↓e_Op, ↓e_Un, ↓e_B, ↓e_Chain, ↓e_AndT, ↓e_OrT, ↓e_NotT, ↓e_AndV, ↓e_OrV, ↓e_NotV, ↓e_If, ↓e_Nil, ↓e_Cons, ↓e_Tup, ↓e_Lst, ↓e_CB, ↓e_CBN, ↓e_Isi, ↓e_TupRg1, ↓e_LstRg1, ↓e_TupRg2, ↓e_LstRg2, ↓e_ScrLen, ↓e_ScrAt, ↓e_SeqI, ↓e_Enum, ↓e_Rng1, ↓e_Rng2, ↓e_Seq, ↓e_Next, ↓e_Break, ↓e_Cont, ↓e_Drop, ↓e_Ret, ↓e_RetN, ↓e_Ret0, ↓e_IfS, ↓e_Asg, ↓e_AsgN, ↓e_AsgLc, ↓e_mNil, ↓e_mVal, ↓e_mNew, ↓e_Par, ↓e_For, ↓e_LoopN, ↓e_LoopC, ↓e_Lc, ↓e_Yes, ↓e_Call, ↓e_CallN, ↓e_Append, ↓e_Extend, ↓e_Pop, ↓e_PopAt, ↓e_SetAt, ↓e_Sl, ↓e_NoP, ↓e_P, ↓e_Aug, ↓e_SrtSet, optP_some, vaP_val, boP_val, inP_val, muP_lst, vals_nil, vals_cons, brP_t, brP_f, brP_d, brP_n, scrOf, rg1, rg2, lstAt, lsOf, nt_of, nt_0, nt_1, slotR, slNew, slMu, slOf, setAll, Dl.En.set, Dl.En.wipe, wipeL, noMu_n, noMu_c, isMu_v, isMu_u, isMu_e, isMu_s, tg_nm, Dl.tg_tup, tgs_nil, tgs_cons, fSl, Rv.d, Rv.m, muD, rvDs, obAt, rvOb, obget_s, obget_e, obput_s, obput_e, put_nil, put_one, conv, argOf, argSlot, argExt, obsMu, seqD, env0, argSl, p_mul, p_mod, p_div, p_pow, p_catT, p_catL, p_maxI, p_minI, List.map_cons, List.map_nil, List.replicate_succ, List.replicate_zero, List.length_cons, List.length_nil, List.nil_append, List.cons_append, List.append_nil, List.getElem?_cons_zero, List.getElem?_cons_succ, List.getElem?_nil, List.set_cons_zero, List.set_cons_succ, List.set_nil, Option.bind_some, Option.bind_none, Option.map_some, Option.map_none, Option.some.injEq, Option.isSome_some, List.all_cons, List.all_nil, List.contains_nil, Bool.and_true, Bool.not_false, Bool.true_and, Rv.val.injEq, PyData.int.injEq, PyData.bool.injEq, PyData.tuple.injEq, PyData.list.injEq, and_assoc, Prod.mk.injEq, reduceCtorEq, Mu.lst.injEq, Int.reducePow, Int.reduceNeg, Int.reduceLT, Int.reduceLE, Int.reduceMul, Int.reduceAdd, Int.reduceSub, Int.reduceToNat, Nat.reduceLT, Nat.reduceLeDiff, Nat.zero_le, or_true, true_or, and_self, not_false_eq_true, forall_const, implies_true, if_true_left, false_or, or_false, p_oD, cut2m, List.all_cons, not_true_eq_false, false_implies, isi_bi, isi_bn, isi_bb, isi_bt, isi_bs, isi_ti, isi_tn, isi_tb, isi_tt, isi_ts, isi_si, isi_sn, isi_sb, isi_st, isi_ss, isi_ii, isi_in, isi_ib, isi_it, isi_is, x_add, x_sub, x_neg, x_lt, x_le, x_gt, x_ge, x_eqI, x_neI, x_is, x_isNot, x_ixL, x_ixT, x_int, x_abs, x_lenL, x_lenT, x_tupL, x_tupT, x_lstL, x_lstT, x_max2, x_min2, at0, at1, at2, at3, atNat, x_inT, x_inL, x_notInT, x_notInL, x_all, x_any, x_sumI, x_nilI, x_nnilI, x_nnilJ, x_eqT, x_neT, x_eqO, x_eqOI, isNone_oD, oD_n, oD_s, decide_eq_true_eq, decide_eq_false_iff_not, true_and, and_true, Nat.sub_self, Nat.reduceSub, Nat.reduceAdd, ite_true, Option.some_inj, eq_self, isNone, Bool.not_true, Int.reduceEq, decide_true, decide_false, exists_eq_left', exists_eq_left, dl_1, dl_2, eq_nn, ne_nn, rgD_hs, Int.toNat_natCast, List.length_map, cut40]
        exact ⟨hlt, fin none _ _ _ _ ⟨fun _ => rfl, fun _ z => absurd hin' z, fun _ x z => nomatch z⟩ trivial trivial⟩
      | some y =>
        simp only [↓e_C, ↓e_V, ↓e_Fz, ↓e_Op, ↓e_Un, ↓e_B, ↓e_Chain, ↓e_AndT, ↓e_OrT, ↓e_NotT, ↓e_AndV, ↓e_OrV, ↓e_NotV, ↓e_If, ↓e_Nil, ↓e_Cons, ↓e_Tup, ↓e_Lst, ↓e_CB, ↓e_CBN, ↓e_Isi, ↓e_TupRg1, ↓e_LstRg1, ↓e_TupRg2, ↓e_LstRg2, ↓e_ScrLen, ↓e_ScrAt, ↓e_SeqI, ↓e_Enum, ↓e_Rng1, ↓e_Rng2, ↓e_Seq, ↓e_Next, ↓e_Break, ↓e_Cont, ↓e_Drop, ↓e_Ret, ↓e_RetN, ↓e_Ret0, ↓e_IfS, ↓e_Asg, ↓e_AsgN, ↓e_AsgLc, ↓e_mNil, ↓e_mVal, ↓e_mNew, ↓e_Par, ↓e_For, ↓e_LoopN, ↓e_LoopC, ↓e_Lc, ↓e_Yes, ↓e_Call, ↓e_CallN, ↓e_Append, ↓e_Extend, ↓e_Pop, ↓e_PopAt, ↓e_SetAt, ↓e_Sl, ↓e_NoP, ↓e_P, ↓e_Aug, ↓e_SrtSet, optP_some, vaP_val, boP_val, inP_val, muP_lst, vals_nil, vals_cons, brP_t, brP_f, brP_d, brP_n, scrOf, rg1, rg2, lstAt, lsOf, nt_of, nt_0, nt_1, slotR, slNew, slMu, slOf, setAll, Dl.En.set, Dl.En.wipe, wipeL, noMu_n, noMu_c, isMu_v, isMu_u, isMu_e, isMu_s, tg_nm, Dl.tg_tup, tgs_nil, tgs_cons, fSl, Rv.d, Rv.m, muD, rvDs, obAt, rvOb, obget_s, obget_e, obput_s, obput_e, put_nil, put_one, conv, argOf, argSlot, argExt, obsMu, seqD, env0, argSl, p_mul, p_mod, p_div, p_pow, p_catT, p_catL, p_maxI, p_minI, List.map_cons, List.map_nil, List.replicate_succ, List.replicate_zero, List.length_cons, List.length_nil, List.nil_append, List.cons_append, List.append_nil, List.getElem?_cons_zero, List.getElem?_cons_succ, List.getElem?_nil, List.set_cons_zero, List.set_cons_succ, List.set_nil, Option.bind_some, Option.bind_none, Option.map_some, Option.map_none, Option.some.injEq, Option.isSome_some, List.all_cons, List.all_nil, List.contains_nil, Bool.and_true, Bool.not_false, Bool.true_and, Rv.val.injEq, PyData.int.injEq, PyData.bool.injEq, PyData.tuple.injEq, PyData.list.injEq, and_assoc, Prod.mk.injEq, reduceCtorEq, Mu.lst.injEq, Int.reducePow, Int.reduceNeg, Int.reduceLT, Int.reduceLE, Int.reduceMul, Int.reduceAdd, Int.reduceSub, Int.reduceToNat, Nat.reduceLT, Nat.reduceLeDiff, Nat.zero_le, or_true, true_or, and_self, not_false_eq_true, forall_const, implies_true, if_true_left, false_or, or_false, p_oD, cut2m, List.all_cons, not_true_eq_false, false_implies, isi_bi, isi_bn, isi_bb, isi_bt, isi_bs, isi_ti, isi_tn, isi_tb, isi_tt, isi_ts, isi_si, isi_sn, isi_sb, isi_st, isi_ss, isi_ii, isi_in, isi_ib, isi_it, isi_is, x_add, x_sub, x_neg, x_lt, x_le, x_gt, x_ge, x_eqI, x_neI, x_is, x_isNot, x_ixL, x_ixT, x_int, x_abs, x_lenL, x_lenT, x_tupL, x_tupT, x_lstL, x_lstT, x_max2, x_min2, at0, at1, at2, at3, atNat, x_inT, x_inL, x_notInT, x_notInL, x_all, x_any, x_sumI, x_nilI, x_nnilI, x_nnilJ, x_eqT, x_neT, x_eqO, x_eqOI, isNone_oD, oD_n, oD_s, decide_eq_true_eq, decide_eq_false_iff_not, true_and, and_true, Nat.sub_self, Nat.reduceSub, Nat.reduceAdd, ite_true, Option.some_inj, eq_self, isNone, Bool.not_true, Int.reduceEq, decide_true, decide_false, exists_eq_left', exists_eq_left, dl_1, dl_2, eq_nn, ne_nn, rgD_hs, Int.toNat_natCast, List.length_map, cut40]
        refine ⟨fun hsg => ⟨hlt, fin (some (if number < y then number else y)) _ _ _ _ ⟨fun z => absurd z hs', fun _ z => absurd hin' z, fun _ x z => ?_⟩ trivial trivial⟩,
          fun hsg => ⟨hlt, fin (some y) _ _ _ _ ⟨fun z => absurd z hs', fun _ z => absurd hin' z, fun z x _ => ?_⟩ trivial trivial⟩⟩
        · cases z; split <;> omega
        · rw [hsg] at z; cases z
    · have hs' : (done.length : Int) ∉ s := by simpa using hs
      have hin' : (done.length : Int) ∉ l := by simpa using hin
      have e := List.getElem?_eq_getElem hd
      refine optP_i (a := PyData.int holds[done.length]) (by rw [List.getElem?_map, e]; rfl) ?_
      exact ⟨hlt, fin (some holds[done.length]) _ _ _ _ ⟨fun z => absurd z hs', fun _ _ => by rw [e], fun _ x z => by cases z; exact h4 _ (List.getElem_mem hd)⟩ trivial k10⟩
  · rintro done env ⟨told, s9, s10, g, r, e1, hl, ht, k9, k10, rfl⟩
    have hd : done.length = holds.length := by have := congrArg List.length e1; rwa [hs_len, List.append_nil] at this
    simp only [↓e_C, ↓e_V, ↓e_Fz, ↓e_Op, ↓e_Un, ↓e_B, ↓e_Chain, ↓e_AndT, ↓e_OrT, ↓e_NotT, ↓e_AndV, ↓e_OrV, ↓e_NotV, ↓e_If, ↓e_Nil, ↓e_Cons, ↓e_Tup, ↓e_Lst, ↓e_CB, ↓e_CBN, ↓e_Isi, ↓e_TupRg1, ↓e_LstRg1, ↓e_TupRg2, ↓e_LstRg2, ↓e_ScrLen, ↓e_ScrAt, ↓e_SeqI, ↓e_Enum, ↓e_Rng1, ↓e_Rng2, ↓e_Seq, ↓e_Next, ↓e_Break, ↓e_Cont, ↓e_Drop, ↓e_Ret, ↓e_RetN, ↓e_Ret0, ↓e_IfS, ↓e_Asg, ↓e_AsgN, ↓e_AsgLc, ↓e_mNil, ↓e_mVal, ↓e_mNew, ↓e_Par, ↓e_For, ↓e_LoopN, ↓e_LoopC, ↓e_Lc, ↓e_Yes, ↓e_Call, ↓e_CallN, ↓e_Append, ↓e_Extend, ↓e_Pop, ↓e_PopAt, ↓e_SetAt, ↓e_Sl, ↓e_NoP, ↓e_P, ↓e_Aug, ↓e_SrtSet, optP_some, vaP_val, boP_val, inP_val, muP_lst, vals_nil, vals_cons, brP_t, brP_f, brP_d, brP_n, scrOf, rg1, rg2, lstAt, lsOf, nt_of, nt_0, nt_1, slotR, slNew, slMu, slOf, setAll, Dl.En.set, Dl.En.wipe, wipeL, noMu_n, noMu_c, isMu_v, isMu_u, isMu_e, isMu_s, tg_nm, Dl.tg_tup, tgs_nil, tgs_cons, fSl, Rv.d, Rv.m, muD, rvDs, obAt, rvOb, obget_s, obget_e, obput_s, obput_e, put_nil, put_one, conv, argOf, argSlot, argExt, obsMu, seqD, env0, argSl, p_mul, p_mod, p_div, p_pow, p_catT, p_catL, p_maxI, p_minI, List.map_cons, List.map_nil, List.replicate_succ, List.replicate_zero, List.length_cons, List.length_nil, List.nil_append, List.cons_append, List.append_nil, List.getElem?_cons_zero, List.getElem?_cons_succ, List.getElem?_nil, List.set_cons_zero, List.set_cons_succ, List.set_nil, Option.bind_some, Option.bind_none, Option.map_some, Option.map_none, Option.some.injEq, Option.isSome_some, List.all_cons, List.all_nil, List.contains_nil, Bool.and_true, Bool.not_false, Bool.true_and, Rv.val.injEq, PyData.int.injEq, PyData.bool.injEq, PyData.tuple.injEq, PyData.list.injEq, and_assoc, Prod.mk.injEq, reduceCtorEq, Mu.lst.injEq, Int.reducePow, Int.reduceNeg, Int.reduceLT, Int.reduceLE, Int.reduceMul, Int.reduceAdd, Int.reduceSub, Int.reduceToNat, Nat.reduceLT, Nat.reduceLeDiff, Nat.zero_le, or_true, true_or, and_self, not_false_eq_true, forall_const, implies_true, if_true_left, false_or, or_false, p_oD, cut2m, List.all_cons, not_true_eq_false, false_implies, isi_bi, isi_bn, isi_bb, isi_bt, isi_bs, isi_ti, isi_tn, isi_tb, isi_tt, isi_ts, isi_si, isi_sn, isi_sb, isi_st, isi_ss, isi_ii, isi_in, isi_ib, isi_it, isi_is, x_add, x_sub, x_neg, x_lt, x_le, x_gt, x_ge, x_eqI, x_neI, x_is, x_isNot, x_ixL, x_ixT, x_int, x_abs, x_lenL, x_lenT, x_tupL, x_tupT, x_lstL, x_lstT, x_max2, x_min2, at0, at1, at2, at3, atNat, x_inT, x_inL, x_notInT, x_notInL, x_all, x_any, x_sumI, x_nilI, x_nnilI, x_nnilJ, x_eqT, x_neT, x_eqO, x_eqOI, isNone_oD, oD_n, oD_s, decide_eq_true_eq, decide_eq_false_iff_not, true_and, and_true, Nat.sub_self, Nat.reduceSub, Nat.reduceAdd, ite_true, Option.some_inj, eq_self, isNone, Bool.not_true, Int.reduceEq, decide_true, decide_false, exists_eq_left', exists_eq_left, dl_1, dl_2, eq_nn, ne_nn, rgD_hs, Int.toNat_natCast, List.length_map, cut40]
    exact q told _ ⟨by omega, ht⟩ ⟨_, _, rfl⟩
theorem box_told {g r number : Int} {holds s l : List Int} {sg : Bool} {Q : Res → List Mu → Prop} (h1 : 0 ≤ number) (h2 : number < 100) (h3 : holds.length ≤ 100) (h4 : ∀ h ∈ holds, h ≤ number)
    (q : ∀ told (g' r' : Int), TdOk number holds s l sg told → Q (.val (tO told)) [.lst [.int g', .int r']]) :
    T__law_told_by.run [.ext 0, .val (hiD number holds s l), .val (.bool sg)] [.lst [.int g, .int r]] Q := ⟨number, holds, s, l, sg, rfl, h1, h2, h3, h4, ⟨g, r, rfl⟩, fun told xt' hh ⟨g', r', e⟩ => by subst e; exact q told g' r' hh⟩
end Dl
namespace Dl
open PySem L2
/-! ### who tells a number -/
def tellers (told : List (Option Int)) (n : Int) : List Int := ((List.range told.length).filter fun i => decide (told[i]? = some (some n))).map fun (i : Nat) => (i : Int)
theorem zip_range {α : Type} (l : List α) (d : α) : l.zipIdx = (List.range l.length).map fun i => (l.getD i d, i) := by
  refine List.ext_getElem? fun i => ?_
  rw [List.getElem?_zipIdx, List.getElem?_map]
  by_cases h : i < l.length
  · rw [List.getElem?_range h, List.getElem?_eq_getElem h]
    simp [h]
  · rw [List.getElem?_eq_none (by omega), List.getElem?_eq_none (by simpa using h)]
    rfl
theorem tellers_zip (told : List (Option Int)) (n : Int) : (told.zipIdx.filter fun p => decide (p.1 = some n)).map (fun p => PyData.int (p.2 : Nat)) = (tellers told n).map PyData.int := by
  rw [zip_range told none, List.filter_map, List.map_map, tellers, List.map_map]
  have : (List.range told.length).filter ((fun p : Option Int × Nat => decide (p.1 = some n)) ∘ fun i => (told.getD i none, i)) = (List.range told.length).filter fun i => decide (told[i]? = some (some n)) := by
    refine List.filter_congr fun i hi => ?_
    have hi' : i < told.length := List.mem_range.mp hi
    simp [hi']
  rw [this]
  rfl
def T_tellers_of : DSp where
  run := fun args xt Q => ∃ (told : List (Option Int)) (n : Int), args = [.val (tO told), .val (.int n)] ∧ told.length ≤ 10000 ∧ Q (.val (tI (tellers told n))) xt
  mono := fun k ⟨t, n, e, h, q⟩ => ⟨t, n, e, h, k _ _ q⟩
def r_tellers_of : RS := dRet (dCB fTuple (dCons (dFz (dLc (dEnum (dV 0)) (.tup [.nm 2, .nm 3]) (dB (dOp fEq (dV 3) (dV 1))) (dV 2) [2, 3])) dNil))
theorem pure_tellers_of : PureOk T_tellers_of 2 4 r_tellers_of := by
  rintro _ xt Q _ ⟨told, n, rfl, hl, q⟩
  unfold r_tellers_of
  simp only [↓e_C, ↓e_V, ↓e_Fz, ↓e_Op, ↓e_Un, ↓e_B, ↓e_Chain, ↓e_AndT, ↓e_OrT, ↓e_NotT, ↓e_AndV, ↓e_OrV, ↓e_NotV, ↓e_If, ↓e_Nil, ↓e_Cons, ↓e_Tup, ↓e_Lst, ↓e_CB, ↓e_CBN, ↓e_Isi, ↓e_TupRg1, ↓e_LstRg1, ↓e_TupRg2, ↓e_LstRg2, ↓e_ScrLen, ↓e_ScrAt, ↓e_SeqI, ↓e_Enum, ↓e_Rng1, ↓e_Rng2, ↓e_Seq, ↓e_Next, ↓e_Break, ↓e_Cont, ↓e_Drop, ↓e_Ret, ↓e_RetN, ↓e_Ret0, ↓e_IfS, ↓e_Asg, ↓e_AsgN, ↓e_AsgLc, ↓e_mNil, ↓e_mVal, ↓e_mNew, ↓e_Par, ↓e_For, ↓e_LoopN, ↓e_LoopC, ↓e_Lc, ↓e_Yes, ↓e_Call, ↓e_CallN, ↓e_Append, ↓e_Extend, ↓e_Pop, ↓e_PopAt, ↓e_SetAt, ↓e_Sl, ↓e_NoP, ↓e_P, ↓e_Aug, ↓e_SrtSet, optP_some, vaP_val, boP_val, inP_val, muP_lst, vals_nil, vals_cons, brP_t, brP_f, brP_d, brP_n, scrOf, rg1, rg2, lstAt, lsOf, nt_of, nt_0, nt_1, slotR, slNew, slMu, slOf, setAll, Dl.En.set, Dl.En.wipe, wipeL, noMu_n, noMu_c, isMu_v, isMu_u, isMu_e, isMu_s, tg_nm, Dl.tg_tup, tgs_nil, tgs_cons, fSl, Rv.d, Rv.m, muD, rvDs, obAt, rvOb, obget_s, obget_e, obput_s, obput_e, put_nil, put_one, conv, argOf, argSlot, argExt, obsMu, seqD, env0, argSl, p_mul, p_mod, p_div, p_pow, p_catT, p_catL, p_maxI, p_minI, List.map_cons, List.map_nil, List.replicate_succ, List.replicate_zero, List.length_cons, List.length_nil, List.nil_append, List.cons_append, List.append_nil, List.getElem?_cons_zero, List.getElem?_cons_succ, List.getElem?_nil, List.set_cons_zero, List.set_cons_succ, List.set_nil, Option.bind_some, Option.bind_none, Option.map_some, Option.map_none, Option.some.injEq, Option.isSome_some, List.all_cons, List.all_nil, List.contains_nil, Bool.and_true, Bool.not_false, Bool.true_and, Rv.val.injEq, PyData.int.injEq, PyData.bool.injEq, PyData.tuple.injEq, PyData.list.injEq, and_assoc, Prod.mk.injEq, reduceCtorEq, Mu.lst.injEq, Int.reducePow, Int.reduceNeg, Int.reduceLT, Int.reduceLE, Int.reduceMul, Int.reduceAdd, Int.reduceSub, Int.reduceToNat, Nat.reduceLT, Nat.reduceLeDiff, Nat.zero_le, or_true, true_or, and_self, not_false_eq_true, forall_const, implies_true, if_true_left, false_or, or_false, p_oD, cut2m, List.all_cons, not_true_eq_false, false_implies, isi_bi, isi_bn, isi_bb, isi_bt, isi_bs, isi_ti, isi_tn, isi_tb, isi_tt, isi_ts, isi_si, isi_sn, isi_sb, isi_st, isi_ss, isi_ii, isi_in, isi_ib, isi_it, isi_is, x_add, x_sub, x_neg, x_lt, x_le, x_gt, x_ge, x_eqI, x_neI, x_is, x_isNot, x_ixL, x_ixT, x_int, x_abs, x_lenL, x_lenT, x_tupL, x_tupT, x_lstL, x_lstT, x_max2, x_min2, at0, at1, at2, at3, atNat, x_inT, x_inL, x_notInT, x_notInL, x_all, x_any, x_sumI, x_nilI, x_nnilI, x_nnilJ, x_eqT, x_neT, x_eqO, x_eqOI, isNone_oD, oD_n, oD_s, decide_eq_true_eq, decide_eq_false_iff_not, true_and, and_true, Nat.sub_self, Nat.reduceSub, Nat.reduceAdd, ite_true, Option.some_inj, eq_self, isNone, Bool.not_true, Int.reduceEq, decide_true, decide_false, exists_eq_left', exists_eq_left, dl_1, dl_2, eq_nn, ne_nn, rgD_hs, Int.toNat_natCast, List.length_map, cut40]
  rw [enumD_map]
  refine lcGo_fil (fun p => decide (p.1 = some n)) (fun p => PyData.int (p.2 : Nat)) told.zipIdx (by rw [List.length_zipIdx]; exact hl) (fun p hp => ⟨_, rfl, rfl, fun QT h => ?_, fun _ QE h => ?_⟩) ?_
  · simp only [↓e_C, ↓e_V, ↓e_Fz, ↓e_Op, ↓e_Un, ↓e_B, ↓e_Chain, ↓e_AndT, ↓e_OrT, ↓e_NotT, ↓e_AndV, ↓e_OrV, ↓e_NotV, ↓e_If, ↓e_Nil, ↓e_Cons, ↓e_Tup, ↓e_Lst, ↓e_CB, ↓e_CBN, ↓e_Isi, ↓e_TupRg1, ↓e_LstRg1, ↓e_TupRg2, ↓e_LstRg2, ↓e_ScrLen, ↓e_ScrAt, ↓e_SeqI, ↓e_Enum, ↓e_Rng1, ↓e_Rng2, ↓e_Seq, ↓e_Next, ↓e_Break, ↓e_Cont, ↓e_Drop, ↓e_Ret, ↓e_RetN, ↓e_Ret0, ↓e_IfS, ↓e_Asg, ↓e_AsgN, ↓e_AsgLc, ↓e_mNil, ↓e_mVal, ↓e_mNew, ↓e_Par, ↓e_For, ↓e_LoopN, ↓e_LoopC, ↓e_Lc, ↓e_Yes, ↓e_Call, ↓e_CallN, ↓e_Append, ↓e_Extend, ↓e_Pop, ↓e_PopAt, ↓e_SetAt, ↓e_Sl, ↓e_NoP, ↓e_P, ↓e_Aug, ↓e_SrtSet, optP_some, vaP_val, boP_val, inP_val, muP_lst, vals_nil, vals_cons, brP_t, brP_f, brP_d, brP_n, scrOf, rg1, rg2, lstAt, lsOf, nt_of, nt_0, nt_1, slotR, slNew, slMu, slOf, setAll, Dl.En.set, Dl.En.wipe, wipeL, noMu_n, noMu_c, isMu_v, isMu_u, isMu_e, isMu_s, tg_nm, Dl.tg_tup, tgs_nil, tgs_cons, fSl, Rv.d, Rv.m, muD, rvDs, obAt, rvOb, obget_s, obget_e, obput_s, obput_e, put_nil, put_one, conv, argOf, argSlot, argExt, obsMu, seqD, env0, argSl, p_mul, p_mod, p_div, p_pow, p_catT, p_catL, p_maxI, p_minI, List.map_cons, List.map_nil, List.replicate_succ, List.replicate_zero, List.length_cons, List.length_nil, List.nil_append, List.cons_append, List.append_nil, List.getElem?_cons_zero, List.getElem?_cons_succ, List.getElem?_nil, List.set_cons_zero, List.set_cons_succ, List.set_nil, Option.bind_some, Option.bind_none, Option.map_some, Option.map_none, Option.some.injEq, Option.isSome_some, List.all_cons, List.all_nil, List.contains_nil, Bool.and_true, Bool.not_false, Bool.true_and, Rv.val.injEq, PyData.int.injEq, PyData.bool.injEq, PyData.tuple.injEq, PyData.list.injEq, and_assoc, Prod.mk.injEq, reduceCtorEq, Mu.lst.injEq, Int.reducePow, Int.reduceNeg, Int.reduceLT, Int.reduceLE, Int.reduceMul, Int.reduceAdd, Int.reduceSub, Int.reduceToNat, Nat.reduceLT, Nat.reduceLeDiff, Nat.zero_le, or_true, true_or, and_self, not_false_eq_true, forall_const, implies_true, if_true_left, false_or, or_false, p_oD, cut2m, List.all_cons, not_true_eq_false, false_implies, isi_bi, isi_bn, isi_bb, isi_bt, isi_bs, isi_ti, isi_tn, isi_tb, isi_tt, isi_ts, isi_si, isi_sn, isi_sb, isi_st, isi_ss, isi_ii, isi_in, isi_ib, isi_it, isi_is, x_add, x_sub, x_neg, x_lt, x_le, x_gt, x_ge, x_eqI, x_neI, x_is, x_isNot, x_ixL, x_ixT, x_int, x_abs, x_lenL, x_lenT, x_tupL, x_tupT, x_lstL, x_lstT, x_max2, x_min2, at0, at1, at2, at3, atNat, x_inT, x_inL, x_notInT, x_notInL, x_all, x_any, x_sumI, x_nilI, x_nnilI, x_nnilJ, x_eqT, x_neT, x_eqO, x_eqOI, isNone_oD, oD_n, oD_s, decide_eq_true_eq, decide_eq_false_iff_not, true_and, and_true, Nat.sub_self, Nat.reduceSub, Nat.reduceAdd, ite_true, Option.some_inj, eq_self, isNone, Bool.not_true, Int.reduceEq, decide_true, decide_false, exists_eq_left', exists_eq_left, dl_1, dl_2, eq_nn, ne_nn, rgD_hs, Int.toNat_natCast, List.length_map, cut40]
    exact h
  · simp only [↓e_C, ↓e_V, ↓e_Fz, ↓e_Op, ↓e_Un, ↓e_B, ↓e_Chain, ↓e_AndT, ↓e_OrT, ↓e_NotT, ↓e_AndV, ↓e_OrV, ↓e_NotV, ↓e_If, ↓e_Nil, ↓e_Cons, ↓e_Tup, ↓e_Lst, ↓e_CB, ↓e_CBN, ↓e_Isi, ↓e_TupRg1, ↓e_LstRg1, ↓e_TupRg2, ↓e_LstRg2, ↓e_ScrLen, ↓e_ScrAt, ↓e_SeqI, ↓e_Enum, ↓e_Rng1, ↓e_Rng2, ↓e_Seq, ↓e_Next, ↓e_Break, ↓e_Cont, ↓e_Drop, ↓e_Ret, ↓e_RetN, ↓e_Ret0, ↓e_IfS, ↓e_Asg, ↓e_AsgN, ↓e_AsgLc, ↓e_mNil, ↓e_mVal, ↓e_mNew, ↓e_Par, ↓e_For, ↓e_LoopN, ↓e_LoopC, ↓e_Lc, ↓e_Yes, ↓e_Call, ↓e_CallN, ↓e_Append, ↓e_Extend, ↓e_Pop, ↓e_PopAt, ↓e_SetAt, ↓e_Sl, ↓e_NoP, ↓e_P, ↓e_Aug, ↓e_SrtSet, optP_some, vaP_val, boP_val, inP_val, muP_lst, vals_nil, vals_cons, brP_t, brP_f, brP_d, brP_n, scrOf, rg1, rg2, lstAt, lsOf, nt_of, nt_0, nt_1, slotR, slNew, slMu, slOf, setAll, Dl.En.set, Dl.En.wipe, wipeL, noMu_n, noMu_c, isMu_v, isMu_u, isMu_e, isMu_s, tg_nm, Dl.tg_tup, tgs_nil, tgs_cons, fSl, Rv.d, Rv.m, muD, rvDs, obAt, rvOb, obget_s, obget_e, obput_s, obput_e, put_nil, put_one, conv, argOf, argSlot, argExt, obsMu, seqD, env0, argSl, p_mul, p_mod, p_div, p_pow, p_catT, p_catL, p_maxI, p_minI, List.map_cons, List.map_nil, List.replicate_succ, List.replicate_zero, List.length_cons, List.length_nil, List.nil_append, List.cons_append, List.append_nil, List.getElem?_cons_zero, List.getElem?_cons_succ, List.getElem?_nil, List.set_cons_zero, List.set_cons_succ, List.set_nil, Option.bind_some, Option.bind_none, Option.map_some, Option.map_none, Option.some.injEq, Option.isSome_some, List.all_cons, List.all_nil, List.contains_nil, Bool.and_true, Bool.not_false, Bool.true_and, Rv.val.injEq, PyData.int.injEq, PyData.bool.injEq, PyData.tuple.injEq, PyData.list.injEq, and_assoc, Prod.mk.injEq, reduceCtorEq, Mu.lst.injEq, Int.reducePow, Int.reduceNeg, Int.reduceLT, Int.reduceLE, Int.reduceMul, Int.reduceAdd, Int.reduceSub, Int.reduceToNat, Nat.reduceLT, Nat.reduceLeDiff, Nat.zero_le, or_true, true_or, and_self, not_false_eq_true, forall_const, implies_true, if_true_left, false_or, or_false, p_oD, cut2m, List.all_cons, not_true_eq_false, false_implies, isi_bi, isi_bn, isi_bb, isi_bt, isi_bs, isi_ti, isi_tn, isi_tb, isi_tt, isi_ts, isi_si, isi_sn, isi_sb, isi_st, isi_ss, isi_ii, isi_in, isi_ib, isi_it, isi_is, x_add, x_sub, x_neg, x_lt, x_le, x_gt, x_ge, x_eqI, x_neI, x_is, x_isNot, x_ixL, x_ixT, x_int, x_abs, x_lenL, x_lenT, x_tupL, x_tupT, x_lstL, x_lstT, x_max2, x_min2, at0, at1, at2, at3, atNat, x_inT, x_inL, x_notInT, x_notInL, x_all, x_any, x_sumI, x_nilI, x_nnilI, x_nnilJ, x_eqT, x_neT, x_eqO, x_eqOI, isNone_oD, oD_n, oD_s, decide_eq_true_eq, decide_eq_false_iff_not, true_and, and_true, Nat.sub_self, Nat.reduceSub, Nat.reduceAdd, ite_true, Option.some_inj, eq_self, isNone, Bool.not_true, Int.reduceEq, decide_true, decide_false, exists_eq_left', exists_eq_left, dl_1, dl_2, eq_nn, ne_nn, rgD_hs, Int.toNat_natCast, List.length_map, cut40]
    exact h
  · rw [tellers_zip]
    simp only [↓e_C, ↓e_V, ↓e_Fz, ↓e_Op, ↓e_Un, ↓e_B, ↓e_Chain, ↓e_AndT, ↓e_OrT, ↓e_NotT, ↓e_AndV, ↓e_OrV, ↓e_NotV, ↓e_If, ↓e_Nil, ↓e_Cons, ↓e_Tup, ↓e_Lst, ↓e_CB, ↓e_CBN, ↓e_Isi, ↓e_TupRg1, ↓e_LstRg1, ↓e_TupRg2, ↓e_LstRg2, ↓e_ScrLen, ↓e_ScrAt, ↓e_SeqI, ↓e_Enum, ↓e_Rng1, ↓e_Rng2, ↓e_Seq, ↓e_Next, ↓e_Break, ↓e_Cont, ↓e_Drop, ↓e_Ret, ↓e_RetN, ↓e_Ret0, ↓e_IfS, ↓e_Asg, ↓e_AsgN, ↓e_AsgLc, ↓e_mNil, ↓e_mVal, ↓e_mNew, ↓e_Par, ↓e_For, ↓e_LoopN, ↓e_LoopC, ↓e_Lc, ↓e_Yes, ↓e_Call, ↓e_CallN, ↓e_Append, ↓e_Extend, ↓e_Pop, ↓e_PopAt, ↓e_SetAt, ↓e_Sl, ↓e_NoP, ↓e_P, ↓e_Aug, ↓e_SrtSet, optP_some, vaP_val, boP_val, inP_val, muP_lst, vals_nil, vals_cons, brP_t, brP_f, brP_d, brP_n, scrOf, rg1, rg2, lstAt, lsOf, nt_of, nt_0, nt_1, slotR, slNew, slMu, slOf, setAll, Dl.En.set, Dl.En.wipe, wipeL, noMu_n, noMu_c, isMu_v, isMu_u, isMu_e, isMu_s, tg_nm, Dl.tg_tup, tgs_nil, tgs_cons, fSl, Rv.d, Rv.m, muD, rvDs, obAt, rvOb, obget_s, obget_e, obput_s, obput_e, put_nil, put_one, conv, argOf, argSlot, argExt, obsMu, seqD, env0, argSl, p_mul, p_mod, p_div, p_pow, p_catT, p_catL, p_maxI, p_minI, List.map_cons, List.map_nil, List.replicate_succ, List.replicate_zero, List.length_cons, List.length_nil, List.nil_append, List.cons_append, List.append_nil, List.getElem?_cons_zero, List.getElem?_cons_succ, List.getElem?_nil, List.set_cons_zero, List.set_cons_succ, List.set_nil, Option.bind_some, Option.bind_none, Option.map_some, Option.map_none, Option.some.injEq, Option.isSome_some, List.all_cons, List.all_nil, List.contains_nil, Bool.and_true, Bool.not_false, Bool.true_and, Rv.val.injEq, PyData.int.injEq, PyData.bool.injEq, PyData.tuple.injEq, PyData.list.injEq, and_assoc, Prod.mk.injEq, reduceCtorEq, Mu.lst.injEq, Int.reducePow, Int.reduceNeg, Int.reduceLT, Int.reduceLE, Int.reduceMul, Int.reduceAdd, Int.reduceSub, Int.reduceToNat, Nat.reduceLT, Nat.reduceLeDiff, Nat.zero_le, or_true, true_or, and_self, not_false_eq_true, forall_const, implies_true, if_true_left, false_or, or_false, p_oD, cut2m, List.all_cons, not_true_eq_false, false_implies, isi_bi, isi_bn, isi_bb, isi_bt, isi_bs, isi_ti, isi_tn, isi_tb, isi_tt, isi_ts, isi_si, isi_sn, isi_sb, isi_st, isi_ss, isi_ii, isi_in, isi_ib, isi_it, isi_is, x_add, x_sub, x_neg, x_lt, x_le, x_gt, x_ge, x_eqI, x_neI, x_is, x_isNot, x_ixL, x_ixT, x_int, x_abs, x_lenL, x_lenT, x_tupL, x_tupT, x_lstL, x_lstT, x_max2, x_min2, at0, at1, at2, at3, atNat, x_inT, x_inL, x_notInT, x_notInL, x_all, x_any, x_sumI, x_nilI, x_nnilI, x_nnilJ, x_eqT, x_neT, x_eqO, x_eqOI, isNone_oD, oD_n, oD_s, decide_eq_true_eq, decide_eq_false_iff_not, true_and, and_true, Nat.sub_self, Nat.reduceSub, Nat.reduceAdd, ite_true, Option.some_inj, eq_self, isNone, Bool.not_true, Int.reduceEq, decide_true, decide_false, exists_eq_left', exists_eq_left, dl_1, dl_2, eq_nn, ne_nn, rgD_hs, Int.toNat_natCast, List.length_map, cut40]
    exact q
theorem tellers_len (told : List (Option Int)) (n : Int) : (tellers told n).length ≤ told.length := by
  unfold tellers
  rw [List.length_map]
  exact Nat.le_trans (List.length_filter_le _ _) (by simp)
/-- what is surely told -/
def sureB (f : List (List Int)) (told : List (Option Int)) : Option Int → Bool
  | none => false
  | some n => !may f (tellers told n)
def sureL (f : List (List Int)) (told : List (Option Int)) : List Int := (told.filter (sureB f told)).filterMap id
def newest (f : List (List Int)) (told : List (Option Int)) : Option Int := if 0 < (sureL f told).length then some (maxI (sureL f told)) else none
theorem somes (p : Option Int → Bool) (hp : p none = false) : ∀ told : List (Option Int), (told.filter p).map oD = ((told.filter p).filterMap id).map PyData.int
  | [] => rfl
  | none :: t => by rw [List.filter_cons, hp]; exact somes p hp t
  | some n :: t => by
    rw [List.filter_cons]
    split
    · rw [List.map_cons, List.filterMap_cons, somes p hp t]; rfl
    · exact somes p hp t
def T_newest_told : DSp where
  run := fun args xt Q => ∃ (f : List (List Int)) (told : List (Option Int)), args = [.val (tF f), .val (tO told)] ∧ f.length ≤ 10000 ∧ told.length ≤ 10000 ∧ Q (.val (oD (newest f told))) xt
  mono := fun k ⟨f, t, e, h, h2, q⟩ => ⟨f, t, e, h, h2, k _ _ q⟩
def r_newest_told : RS := dSeq (dAsgLc 2 (dLc (dSeqI (dV 1)) (.nm 3) (dAndT (dB (dOp fIsNot (dV 3) (dC .none))) (dNotT (dB (dCall T_may_lie 2 [false, false] (dCons (dV 0) (dCons (dCall T_tellers_of 2 [false, false] (dCons (dV 1) (dCons (dV 3) dNil))) dNil)))))) (dV 3) [3])) (dRet (dIf (dB (dOp fGt (dCB fLen (dCons (dV 2) dNil)) (dC (.int 0)))) (dCB fMax (dCons (dV 2) dNil)) (dC .none)))
theorem pure_newest_told : PureOk T_newest_told 2 4 r_newest_told := by
  rintro _ xt Q _ ⟨f, told, rfl, hf, hl, q⟩
  unfold r_newest_told
  simp only [↓e_C, ↓e_V, ↓e_Fz, ↓e_Op, ↓e_Un, ↓e_B, ↓e_Chain, ↓e_AndT, ↓e_OrT, ↓e_NotT, ↓e_AndV, ↓e_OrV, ↓e_NotV, ↓e_If, ↓e_Nil, ↓e_Cons, ↓e_Tup, ↓e_Lst, ↓e_CB, ↓e_CBN, ↓e_Isi, ↓e_TupRg1, ↓e_LstRg1, ↓e_TupRg2, ↓e_LstRg2, ↓e_ScrLen, ↓e_ScrAt, ↓e_SeqI, ↓e_Enum, ↓e_Rng1, ↓e_Rng2, ↓e_Seq, ↓e_Next, ↓e_Break, ↓e_Cont, ↓e_Drop, ↓e_Ret, ↓e_RetN, ↓e_Ret0, ↓e_IfS, ↓e_Asg, ↓e_AsgN, ↓e_AsgLc, ↓e_mNil, ↓e_mVal, ↓e_mNew, ↓e_Par, ↓e_For, ↓e_LoopN, ↓e_LoopC, ↓e_Lc, ↓e_Yes, ↓e_Call, ↓e_CallN, ↓e_Append, ↓e_Extend, ↓e_Pop, ↓e_PopAt, ↓e_SetAt, ↓e_Sl, ↓e_NoP, ↓e_P, ↓e_Aug, ↓e_SrtSet, optP_some, vaP_val, boP_val, inP_val, muP_lst, vals_nil, vals_cons, brP_t, brP_f, brP_d, brP_n, scrOf, rg1, rg2, lstAt, lsOf, nt_of, nt_0, nt_1, slotR, slNew, slMu, slOf, setAll, Dl.En.set, Dl.En.wipe, wipeL, noMu_n, noMu_c, isMu_v, isMu_u, isMu_e, isMu_s, tg_nm, Dl.tg_tup, tgs_nil, tgs_cons, fSl, Rv.d, Rv.m, muD, rvDs, obAt, rvOb, obget_s, obget_e, obput_s, obput_e, put_nil, put_one, conv, argOf, argSlot, argExt, obsMu, seqD, env0, argSl, p_mul, p_mod, p_div, p_pow, p_catT, p_catL, p_maxI, p_minI, List.map_cons, List.map_nil, List.replicate_succ, List.replicate_zero, List.length_cons, List.length_nil, List.nil_append, List.cons_append, List.append_nil, List.getElem?_cons_zero, List.getElem?_cons_succ, List.getElem?_nil, List.set_cons_zero, List.set_cons_succ, List.set_nil, Option.bind_some, Option.bind_none, Option.map_some, Option.map_none, Option.some.injEq, Option.isSome_some, List.all_cons, List.all_nil, List.contains_nil, Bool.and_true, Bool.not_false, Bool.true_and, Rv.val.injEq, PyData.int.injEq, PyData.bool.injEq, PyData.tuple.injEq, PyData.list.injEq, and_assoc, Prod.mk.injEq, reduceCtorEq, Mu.lst.injEq, Int.reducePow, Int.reduceNeg, Int.reduceLT, Int.reduceLE, Int.reduceMul, Int.reduceAdd, Int.reduceSub, Int.reduceToNat, Nat.reduceLT, Nat.reduceLeDiff, Nat.zero_le, or_true, true_or, and_self, not_false_eq_true, forall_const, implies_true, if_true_left, false_or, or_false, p_oD, cut2m, List.all_cons, not_true_eq_false, false_implies, isi_bi, isi_bn, isi_bb, isi_bt, isi_bs, isi_ti, isi_tn, isi_tb, isi_tt, isi_ts, isi_si, isi_sn, isi_sb, isi_st, isi_ss, isi_ii, isi_in, isi_ib, isi_it, isi_is, x_add, x_sub, x_neg, x_lt, x_le, x_gt, x_ge, x_eqI, x_neI, x_is, x_isNot, x_ixL, x_ixT, x_int, x_abs, x_lenL, x_lenT, x_tupL, x_tupT, x_lstL, x_lstT, x_max2, x_min2, at0, at1, at2, at3, atNat, x_inT, x_inL, x_notInT, x_notInL, x_all, x_any, x_sumI, x_nilI, x_nnilI, x_nnilJ, x_eqT, x_neT, x_eqO, x_eqOI, isNone_oD, oD_n, oD_s, decide_eq_true_eq, decide_eq_false_iff_not, true_and, and_true, Nat.sub_self, Nat.reduceSub, Nat.reduceAdd, ite_true, Option.some_inj, eq_self, isNone, Bool.not_true, Int.reduceEq, decide_true, decide_false, exists_eq_left', exists_eq_left, dl_1, dl_2, eq_nn, ne_nn, rgD_hs, Int.toNat_natCast, List.length_map, cut40]
  refine lcGo_fil (enc := oD) (sureB f told) oD told hl (fun o ho => ⟨_, rfl, rfl, fun QT h => ?_, fun _ QE h => ?_⟩) ?_
  · cases o with
    | none => simp only [↓e_C, ↓e_V, ↓e_Fz, ↓e_Op, ↓e_Un, ↓e_B, ↓e_Chain, ↓e_AndT, ↓e_OrT, ↓e_NotT, ↓e_AndV, ↓e_OrV, ↓e_NotV, ↓e_If, ↓e_Nil, ↓e_Cons, ↓e_Tup, ↓e_Lst, ↓e_CB, ↓e_CBN, ↓e_Isi, ↓e_TupRg1, ↓e_LstRg1, ↓e_TupRg2, ↓e_LstRg2, ↓e_ScrLen, ↓e_ScrAt, ↓e_SeqI, ↓e_Enum, ↓e_Rng1, ↓e_Rng2, ↓e_Seq, ↓e_Next, ↓e_Break, ↓e_Cont, ↓e_Drop, ↓e_Ret, ↓e_RetN, ↓e_Ret0, ↓e_IfS, ↓e_Asg, ↓e_AsgN, ↓e_AsgLc, ↓e_mNil, ↓e_mVal, ↓e_mNew, ↓e_Par, ↓e_For, ↓e_LoopN, ↓e_LoopC, ↓e_Lc, ↓e_Yes, ↓e_Call, ↓e_CallN, ↓e_Append, ↓e_Extend, ↓e_Pop, ↓e_PopAt, ↓e_SetAt, ↓e_Sl, ↓e_NoP, ↓e_P, ↓e_Aug, ↓e_SrtSet, optP_some, vaP_val, boP_val, inP_val, muP_lst, vals_nil, vals_cons, brP_t, brP_f, brP_d, brP_n, scrOf, rg1, rg2, lstAt, lsOf, nt_of, nt_0, nt_1, slotR, slNew, slMu, slOf, setAll, Dl.En.set, Dl.En.wipe, wipeL, noMu_n, noMu_c, isMu_v, isMu_u, isMu_e, isMu_s, tg_nm, Dl.tg_tup, tgs_nil, tgs_cons, fSl, Rv.d, Rv.m, muD, rvDs, obAt, rvOb, obget_s, obget_e, obput_s, obput_e, put_nil, put_one, conv, argOf, argSlot, argExt, obsMu, seqD, env0, argSl, p_mul, p_mod, p_div, p_pow, p_catT, p_catL, p_maxI, p_minI, List.map_cons, List.map_nil, List.replicate_succ, List.replicate_zero, List.length_cons, List.length_nil, List.nil_append, List.cons_append, List.append_nil, List.getElem?_cons_zero, List.getElem?_cons_succ, List.getElem?_nil, List.set_cons_zero, List.set_cons_succ, List.set_nil, Option.bind_some, Option.bind_none, Option.map_some, Option.map_none, Option.some.injEq, Option.isSome_some, List.all_cons, List.all_nil, List.contains_nil, Bool.and_true, Bool.not_false, Bool.true_and, Rv.val.injEq, PyData.int.injEq, PyData.bool.injEq, PyData.tuple.injEq, PyData.list.injEq, and_assoc, Prod.mk.injEq, reduceCtorEq, Mu.lst.injEq, Int.reducePow, Int.reduceNeg, Int.reduceLT, Int.reduceLE, Int.reduceMul, Int.reduceAdd, Int.reduceSub, Int.reduceToNat, Nat.reduceLT, Nat.reduceLeDiff, Nat.zero_le, or_true, true_or, and_self, not_false_eq_true, forall_const, implies_true, if_true_left, false_or, or_false, p_oD, cut2m, List.all_cons, not_true_eq_false, false_implies, isi_bi, isi_bn, isi_bb, isi_bt, isi_bs, isi_ti, isi_tn, isi_tb, isi_tt, isi_ts, isi_si, isi_sn, isi_sb, isi_st, isi_ss, isi_ii, isi_in, isi_ib, isi_it, isi_is, x_add, x_sub, x_neg, x_lt, x_le, x_gt, x_ge, x_eqI, x_neI, x_is, x_isNot, x_ixL, x_ixT, x_int, x_abs, x_lenL, x_lenT, x_tupL, x_tupT, x_lstL, x_lstT, x_max2, x_min2, at0, at1, at2, at3, atNat, x_inT, x_inL, x_notInT, x_notInL, x_all, x_any, x_sumI, x_nilI, x_nnilI, x_nnilJ, x_eqT, x_neT, x_eqO, x_eqOI, isNone_oD, oD_n, oD_s, decide_eq_true_eq, decide_eq_false_iff_not, true_and, and_true, Nat.sub_self, Nat.reduceSub, Nat.reduceAdd, ite_true, Option.some_inj, eq_self, isNone, Bool.not_true, Int.reduceEq, decide_true, decide_false, exists_eq_left', exists_eq_left, dl_1, dl_2, eq_nn, ne_nn, rgD_hs, Int.toNat_natCast, List.length_map, cut40]; exact h
    | some n =>
      simp only [↓e_C, ↓e_V, ↓e_Fz, ↓e_Op, ↓e_Un, ↓e_B, ↓e_Chain, ↓e_AndT, ↓e_OrT, ↓e_NotT, ↓e_AndV, ↓e_OrV, ↓e_NotV, ↓e_If, ↓e_Nil, ↓e_Cons, ↓e_Tup, ↓e_Lst, ↓e_CB, ↓e_CBN, ↓e_Isi, ↓e_TupRg1, ↓e_LstRg1, ↓e_TupRg2, ↓e_LstRg2, ↓e_ScrLen, ↓e_ScrAt, ↓e_SeqI, ↓e_Enum, ↓e_Rng1, ↓e_Rng2, ↓e_Seq, ↓e_Next, ↓e_Break, ↓e_Cont, ↓e_Drop, ↓e_Ret, ↓e_RetN, ↓e_Ret0, ↓e_IfS, ↓e_Asg, ↓e_AsgN, ↓e_AsgLc, ↓e_mNil, ↓e_mVal, ↓e_mNew, ↓e_Par, ↓e_For, ↓e_LoopN, ↓e_LoopC, ↓e_Lc, ↓e_Yes, ↓e_Call, ↓e_CallN, ↓e_Append, ↓e_Extend, ↓e_Pop, ↓e_PopAt, ↓e_SetAt, ↓e_Sl, ↓e_NoP, ↓e_P, ↓e_Aug, ↓e_SrtSet, optP_some, vaP_val, boP_val, inP_val, muP_lst, vals_nil, vals_cons, brP_t, brP_f, brP_d, brP_n, scrOf, rg1, rg2, lstAt, lsOf, nt_of, nt_0, nt_1, slotR, slNew, slMu, slOf, setAll, Dl.En.set, Dl.En.wipe, wipeL, noMu_n, noMu_c, isMu_v, isMu_u, isMu_e, isMu_s, tg_nm, Dl.tg_tup, tgs_nil, tgs_cons, fSl, Rv.d, Rv.m, muD, rvDs, obAt, rvOb, obget_s, obget_e, obput_s, obput_e, put_nil, put_one, conv, argOf, argSlot, argExt, obsMu, seqD, env0, argSl, p_mul, p_mod, p_div, p_pow, p_catT, p_catL, p_maxI, p_minI, List.map_cons, List.map_nil, List.replicate_succ, List.replicate_zero, List.length_cons, List.length_nil, List.nil_append, List.cons_append, List.append_nil, List.getElem?_cons_zero, List.getElem?_cons_succ, List.getElem?_nil, List.set_cons_zero, List.set_cons_succ, List.set_nil, Option.bind_some, Option.bind_none, Option.map_some, Option.map_none, Option.some.injEq, Option.isSome_some, List.all_cons, List.all_nil, List.contains_nil, Bool.and_true, Bool.not_false, Bool.true_and, Rv.val.injEq, PyData.int.injEq, PyData.bool.injEq, PyData.tuple.injEq, PyData.list.injEq, and_assoc, Prod.mk.injEq, reduceCtorEq, Mu.lst.injEq, Int.reducePow, Int.reduceNeg, Int.reduceLT, Int.reduceLE, Int.reduceMul, Int.reduceAdd, Int.reduceSub, Int.reduceToNat, Nat.reduceLT, Nat.reduceLeDiff, Nat.zero_le, or_true, true_or, and_self, not_false_eq_true, forall_const, implies_true, if_true_left, false_or, or_false, p_oD, cut2m, List.all_cons, not_true_eq_false, false_implies, isi_bi, isi_bn, isi_bb, isi_bt, isi_bs, isi_ti, isi_tn, isi_tb, isi_tt, isi_ts, isi_si, isi_sn, isi_sb, isi_st, isi_ss, isi_ii, isi_in, isi_ib, isi_it, isi_is, x_add, x_sub, x_neg, x_lt, x_le, x_gt, x_ge, x_eqI, x_neI, x_is, x_isNot, x_ixL, x_ixT, x_int, x_abs, x_lenL, x_lenT, x_tupL, x_tupT, x_lstL, x_lstT, x_max2, x_min2, at0, at1, at2, at3, atNat, x_inT, x_inL, x_notInT, x_notInL, x_all, x_any, x_sumI, x_nilI, x_nnilI, x_nnilJ, x_eqT, x_neT, x_eqO, x_eqOI, isNone_oD, oD_n, oD_s, decide_eq_true_eq, decide_eq_false_iff_not, true_and, and_true, Nat.sub_self, Nat.reduceSub, Nat.reduceAdd, ite_true, Option.some_inj, eq_self, isNone, Bool.not_true, Int.reduceEq, decide_true, decide_false, exists_eq_left', exists_eq_left, dl_1, dl_2, eq_nn, ne_nn, rgD_hs, Int.toNat_natCast, List.length_map, cut40]
      refine ⟨_, _, rfl, hl, ?_⟩
      have := tellers_len told n
      simp only [↓e_C, ↓e_V, ↓e_Fz, ↓e_Op, ↓e_Un, ↓e_B, ↓e_Chain, ↓e_AndT, ↓e_OrT, ↓e_NotT, ↓e_AndV, ↓e_OrV, ↓e_NotV, ↓e_If, ↓e_Nil, ↓e_Cons, ↓e_Tup, ↓e_Lst, ↓e_CB, ↓e_CBN, ↓e_Isi, ↓e_TupRg1, ↓e_LstRg1, ↓e_TupRg2, ↓e_LstRg2, ↓e_ScrLen, ↓e_ScrAt, ↓e_SeqI, ↓e_Enum, ↓e_Rng1, ↓e_Rng2, ↓e_Seq, ↓e_Next, ↓e_Break, ↓e_Cont, ↓e_Drop, ↓e_Ret, ↓e_RetN, ↓e_Ret0, ↓e_IfS, ↓e_Asg, ↓e_AsgN, ↓e_AsgLc, ↓e_mNil, ↓e_mVal, ↓e_mNew, ↓e_Par, ↓e_For, ↓e_LoopN, ↓e_LoopC, ↓e_Lc, ↓e_Yes, ↓e_Call, ↓e_CallN, ↓e_Append, ↓e_Extend, ↓e_Pop, ↓e_PopAt, ↓e_SetAt, ↓e_Sl, ↓e_NoP, ↓e_P, ↓e_Aug, ↓e_SrtSet, optP_some, vaP_val, boP_val, inP_val, muP_lst, vals_nil, vals_cons, brP_t, brP_f, brP_d, brP_n, scrOf, rg1, rg2, lstAt, lsOf, nt_of, nt_0, nt_1, slotR, slNew, slMu, slOf, setAll, Dl.En.set, Dl.En.wipe, wipeL, noMu_n, noMu_c, isMu_v, isMu_u, isMu_e, isMu_s, tg_nm, Dl.tg_tup, tgs_nil, tgs_cons, fSl, Rv.d, Rv.m, muD, rvDs, obAt, rvOb, obget_s, obget_e, obput_s, obput_e, put_nil, put_one, conv, argOf, argSlot, argExt, obsMu, seqD, env0, argSl, p_mul, p_mod, p_div, p_pow, p_catT, p_catL, p_maxI, p_minI, List.map_cons, List.map_nil, List.replicate_succ, List.replicate_zero, List.length_cons, List.length_nil, List.nil_append, List.cons_append, List.append_nil, List.getElem?_cons_zero, List.getElem?_cons_succ, List.getElem?_nil, List.set_cons_zero, List.set_cons_succ, List.set_nil, Option.bind_some, Option.bind_none, Option.map_some, Option.map_none, Option.some.injEq, Option.isSome_some, List.all_cons, List.all_nil, List.contains_nil, Bool.and_true, Bool.not_false, Bool.true_and, Rv.val.injEq, PyData.int.injEq, PyData.bool.injEq, PyData.tuple.injEq, PyData.list.injEq, and_assoc, Prod.mk.injEq, reduceCtorEq, Mu.lst.injEq, Int.reducePow, Int.reduceNeg, Int.reduceLT, Int.reduceLE, Int.reduceMul, Int.reduceAdd, Int.reduceSub, Int.reduceToNat, Nat.reduceLT, Nat.reduceLeDiff, Nat.zero_le, or_true, true_or, and_self, not_false_eq_true, forall_const, implies_true, if_true_left, false_or, or_false, p_oD, cut2m, List.all_cons, not_true_eq_false, false_implies, isi_bi, isi_bn, isi_bb, isi_bt, isi_bs, isi_ti, isi_tn, isi_tb, isi_tt, isi_ts, isi_si, isi_sn, isi_sb, isi_st, isi_ss, isi_ii, isi_in, isi_ib, isi_it, isi_is, x_add, x_sub, x_neg, x_lt, x_le, x_gt, x_ge, x_eqI, x_neI, x_is, x_isNot, x_ixL, x_ixT, x_int, x_abs, x_lenL, x_lenT, x_tupL, x_tupT, x_lstL, x_lstT, x_max2, x_min2, at0, at1, at2, at3, atNat, x_inT, x_inL, x_notInT, x_notInL, x_all, x_any, x_sumI, x_nilI, x_nnilI, x_nnilJ, x_eqT, x_neT, x_eqO, x_eqOI, isNone_oD, oD_n, oD_s, decide_eq_true_eq, decide_eq_false_iff_not, true_and, and_true, Nat.sub_self, Nat.reduceSub, Nat.reduceAdd, ite_true, Option.some_inj, eq_self, isNone, Bool.not_true, Int.reduceEq, decide_true, decide_false, exists_eq_left', exists_eq_left, dl_1, dl_2, eq_nn, ne_nn, rgD_hs, Int.toNat_natCast, List.length_map, cut40]
      refine ⟨_, _, rfl, hf, by omega, ?_⟩
      simp only [↓e_C, ↓e_V, ↓e_Fz, ↓e_Op, ↓e_Un, ↓e_B, ↓e_Chain, ↓e_AndT, ↓e_OrT, ↓e_NotT, ↓e_AndV, ↓e_OrV, ↓e_NotV, ↓e_If, ↓e_Nil, ↓e_Cons, ↓e_Tup, ↓e_Lst, ↓e_CB, ↓e_CBN, ↓e_Isi, ↓e_TupRg1, ↓e_LstRg1, ↓e_TupRg2, ↓e_LstRg2, ↓e_ScrLen, ↓e_ScrAt, ↓e_SeqI, ↓e_Enum, ↓e_Rng1, ↓e_Rng2, ↓e_Seq, ↓e_Next, ↓e_Break, ↓e_Cont, ↓e_Drop, ↓e_Ret, ↓e_RetN, ↓e_Ret0, ↓e_IfS, ↓e_Asg, ↓e_AsgN, ↓e_AsgLc, ↓e_mNil, ↓e_mVal, ↓e_mNew, ↓e_Par, ↓e_For, ↓e_LoopN, ↓e_LoopC, ↓e_Lc, ↓e_Yes, ↓e_Call, ↓e_CallN, ↓e_Append, ↓e_Extend, ↓e_Pop, ↓e_PopAt, ↓e_SetAt, ↓e_Sl, ↓e_NoP, ↓e_P, ↓e_Aug, ↓e_SrtSet, optP_some, vaP_val, boP_val, inP_val, muP_lst, vals_nil, vals_cons, brP_t, brP_f, brP_d, brP_n, scrOf, rg1, rg2, lstAt, lsOf, nt_of, nt_0, nt_1, slotR, slNew, slMu, slOf, setAll, Dl.En.set, Dl.En.wipe, wipeL, noMu_n, noMu_c, isMu_v, isMu_u, isMu_e, isMu_s, tg_nm, Dl.tg_tup, tgs_nil, tgs_cons, fSl, Rv.d, Rv.m, muD, rvDs, obAt, rvOb, obget_s, obget_e, obput_s, obput_e, put_nil, put_one, conv, argOf, argSlot, argExt, obsMu, seqD, env0, argSl, p_mul, p_mod, p_div, p_pow, p_catT, p_catL, p_maxI, p_minI, List.map_cons, List.map_nil, List.replicate_succ, List.replicate_zero, List.length_cons, List.length_nil, List.nil_append, List.cons_append, List.append_nil, List.getElem?_cons_zero, List.getElem?_cons_succ, List.getElem?_nil, List.set_cons_zero, List.set_cons_succ, List.set_nil, Option.bind_some, Option.bind_none, Option.map_some, Option.map_none, Option.some.injEq, Option.isSome_some, List.all_cons, List.all_nil, List.contains_nil, Bool.and_true, Bool.not_false, Bool.true_and, Rv.val.injEq, PyData.int.injEq, PyData.bool.injEq, PyData.tuple.injEq, PyData.list.injEq, and_assoc, Prod.mk.injEq, reduceCtorEq, Mu.lst.injEq, Int.reducePow, Int.reduceNeg, Int.reduceLT, Int.reduceLE, Int.reduceMul, Int.reduceAdd, Int.reduceSub, Int.reduceToNat, Nat.reduceLT, Nat.reduceLeDiff, Nat.zero_le, or_true, true_or, and_self, not_false_eq_true, forall_const, implies_true, if_true_left, false_or, or_false, p_oD, cut2m, List.all_cons, not_true_eq_false, false_implies, isi_bi, isi_bn, isi_bb, isi_bt, isi_bs, isi_ti, isi_tn, isi_tb, isi_tt, isi_ts, isi_si, isi_sn, isi_sb, isi_st, isi_ss, isi_ii, isi_in, isi_ib, isi_it, isi_is, x_add, x_sub, x_neg, x_lt, x_le, x_gt, x_ge, x_eqI, x_neI, x_is, x_isNot, x_ixL, x_ixT, x_int, x_abs, x_lenL, x_lenT, x_tupL, x_tupT, x_lstL, x_lstT, x_max2, x_min2, at0, at1, at2, at3, atNat, x_inT, x_inL, x_notInT, x_notInL, x_all, x_any, x_sumI, x_nilI, x_nnilI, x_nnilJ, x_eqT, x_neT, x_eqO, x_eqOI, isNone_oD, oD_n, oD_s, decide_eq_true_eq, decide_eq_false_iff_not, true_and, and_true, Nat.sub_self, Nat.reduceSub, Nat.reduceAdd, ite_true, Option.some_inj, eq_self, isNone, Bool.not_true, Int.reduceEq, decide_true, decide_false, exists_eq_left', exists_eq_left, dl_1, dl_2, eq_nn, ne_nn, rgD_hs, Int.toNat_natCast, List.length_map, cut40]
      exact h
  · simp only [↓e_C, ↓e_V, ↓e_Fz, ↓e_Op, ↓e_Un, ↓e_B, ↓e_Chain, ↓e_AndT, ↓e_OrT, ↓e_NotT, ↓e_AndV, ↓e_OrV, ↓e_NotV, ↓e_If, ↓e_Nil, ↓e_Cons, ↓e_Tup, ↓e_Lst, ↓e_CB, ↓e_CBN, ↓e_Isi, ↓e_TupRg1, ↓e_LstRg1, ↓e_TupRg2, ↓e_LstRg2, ↓e_ScrLen, ↓e_ScrAt, ↓e_SeqI, ↓e_Enum, ↓e_Rng1, ↓e_Rng2, ↓e_Seq, ↓e_Next, ↓e_Break, ↓e_Cont, ↓e_Drop, ↓e_Ret, ↓e_RetN, ↓e_Ret0, ↓e_IfS, ↓e_Asg, ↓e_AsgN, ↓e_AsgLc, ↓e_mNil, ↓e_mVal, ↓e_mNew, ↓e_Par, ↓e_For, ↓e_LoopN, ↓e_LoopC, ↓e_Lc, ↓e_Yes, ↓e_Call, ↓e_CallN, ↓e_Append, ↓e_Extend, ↓e_Pop, ↓e_PopAt, ↓e_SetAt, ↓e_Sl, ↓e_NoP, ↓e_P, ↓e_Aug, ↓e_SrtSet, optP_some, vaP_val, boP_val, inP_val, muP_lst, vals_nil, vals_cons, brP_t, brP_f, brP_d, brP_n, scrOf, rg1, rg2, lstAt, lsOf, nt_of, nt_0, nt_1, slotR, slNew, slMu, slOf, setAll, Dl.En.set, Dl.En.wipe, wipeL, noMu_n, noMu_c, isMu_v, isMu_u, isMu_e, isMu_s, tg_nm, Dl.tg_tup, tgs_nil, tgs_cons, fSl, Rv.d, Rv.m, muD, rvDs, obAt, rvOb, obget_s, obget_e, obput_s, obput_e, put_nil, put_one, conv, argOf, argSlot, argExt, obsMu, seqD, env0, argSl, p_mul, p_mod, p_div, p_pow, p_catT, p_catL, p_maxI, p_minI, List.map_cons, List.map_nil, List.replicate_succ, List.replicate_zero, List.length_cons, List.length_nil, List.nil_append, List.cons_append, List.append_nil, List.getElem?_cons_zero, List.getElem?_cons_succ, List.getElem?_nil, List.set_cons_zero, List.set_cons_succ, List.set_nil, Option.bind_some, Option.bind_none, Option.map_some, Option.map_none, Option.some.injEq, Option.isSome_some, List.all_cons, List.all_nil, List.contains_nil, Bool.and_true, Bool.not_false, Bool.true_and, Rv.val.injEq, PyData.int.injEq, PyData.bool.injEq, PyData.tuple.injEq, PyData.list.injEq, and_assoc, Prod.mk.injEq, reduceCtorEq, Mu.lst.injEq, Int.reducePow, Int.reduceNeg, Int.reduceLT, Int.reduceLE, Int.reduceMul, Int.reduceAdd, Int.reduceSub, Int.reduceToNat, Nat.reduceLT, Nat.reduceLeDiff, Nat.zero_le, or_true, true_or, and_self, not_false_eq_true, forall_const, implies_true, if_true_left, false_or, or_false, p_oD, cut2m, List.all_cons, not_true_eq_false, false_implies, isi_bi, isi_bn, isi_bb, isi_bt, isi_bs, isi_ti, isi_tn, isi_tb, isi_tt, isi_ts, isi_si, isi_sn, isi_sb, isi_st, isi_ss, isi_ii, isi_in, isi_ib, isi_it, isi_is, x_add, x_sub, x_neg, x_lt, x_le, x_gt, x_ge, x_eqI, x_neI, x_is, x_isNot, x_ixL, x_ixT, x_int, x_abs, x_lenL, x_lenT, x_tupL, x_tupT, x_lstL, x_lstT, x_max2, x_min2, at0, at1, at2, at3, atNat, x_inT, x_inL, x_notInT, x_notInL, x_all, x_any, x_sumI, x_nilI, x_nnilI, x_nnilJ, x_eqT, x_neT, x_eqO, x_eqOI, isNone_oD, oD_n, oD_s, decide_eq_true_eq, decide_eq_false_iff_not, true_and, and_true, Nat.sub_self, Nat.reduceSub, Nat.reduceAdd, ite_true, Option.some_inj, eq_self, isNone, Bool.not_true, Int.reduceEq, decide_true, decide_false, exists_eq_left', exists_eq_left, dl_1, dl_2, eq_nn, ne_nn, rgD_hs, Int.toNat_natCast, List.length_map, cut40]
    exact h
  · rw [somes _ rfl]
    simp only [↓e_C, ↓e_V, ↓e_Fz, ↓e_Op, ↓e_Un, ↓e_B, ↓e_Chain, ↓e_AndT, ↓e_OrT, ↓e_NotT, ↓e_AndV, ↓e_OrV, ↓e_NotV, ↓e_If, ↓e_Nil, ↓e_Cons, ↓e_Tup, ↓e_Lst, ↓e_CB, ↓e_CBN, ↓e_Isi, ↓e_TupRg1, ↓e_LstRg1, ↓e_TupRg2, ↓e_LstRg2, ↓e_ScrLen, ↓e_ScrAt, ↓e_SeqI, ↓e_Enum, ↓e_Rng1, ↓e_Rng2, ↓e_Seq, ↓e_Next, ↓e_Break, ↓e_Cont, ↓e_Drop, ↓e_Ret, ↓e_RetN, ↓e_Ret0, ↓e_IfS, ↓e_Asg, ↓e_AsgN, ↓e_AsgLc, ↓e_mNil, ↓e_mVal, ↓e_mNew, ↓e_Par, ↓e_For, ↓e_LoopN, ↓e_LoopC, ↓e_Lc, ↓e_Yes, ↓e_Call, ↓e_CallN, ↓e_Append, ↓e_Extend, ↓e_Pop, ↓e_PopAt, ↓e_SetAt, ↓e_Sl, ↓e_NoP, ↓e_P, ↓e_Aug, ↓e_SrtSet, optP_some, vaP_val, boP_val, inP_val, muP_lst, vals_nil, vals_cons, brP_t, brP_f, brP_d, brP_n, scrOf, rg1, rg2, lstAt, lsOf, nt_of, nt_0, nt_1, slotR, slNew, slMu, slOf, setAll, Dl.En.set, Dl.En.wipe, wipeL, noMu_n, noMu_c, isMu_v, isMu_u, isMu_e, isMu_s, tg_nm, Dl.tg_tup, tgs_nil, tgs_cons, fSl, Rv.d, Rv.m, muD, rvDs, obAt, rvOb, obget_s, obget_e, obput_s, obput_e, put_nil, put_one, conv, argOf, argSlot, argExt, obsMu, seqD, env0, argSl, p_mul, p_mod, p_div, p_pow, p_catT, p_catL, p_maxI, p_minI, List.map_cons, List.map_nil, List.replicate_succ, List.replicate_zero, List.length_cons, List.length_nil, List.nil_append, List.cons_append, List.append_nil, List.getElem?_cons_zero, List.getElem?_cons_succ, List.getElem?_nil, List.set_cons_zero, List.set_cons_succ, List.set_nil, Option.bind_some, Option.bind_none, Option.map_some, Option.map_none, Option.some.injEq, Option.isSome_some, List.all_cons, List.all_nil, List.contains_nil, Bool.and_true, Bool.not_false, Bool.true_and, Rv.val.injEq, PyData.int.injEq, PyData.bool.injEq, PyData.tuple.injEq, PyData.list.injEq, and_assoc, Prod.mk.injEq, reduceCtorEq, Mu.lst.injEq, Int.reducePow, Int.reduceNeg, Int.reduceLT, Int.reduceLE, Int.reduceMul, Int.reduceAdd, Int.reduceSub, Int.reduceToNat, Nat.reduceLT, Nat.reduceLeDiff, Nat.zero_le, or_true, true_or, and_self, not_false_eq_true, forall_const, implies_true, if_true_left, false_or, or_false, p_oD, cut2m, List.all_cons, not_true_eq_false, false_implies, isi_bi, isi_bn, isi_bb, isi_bt, isi_bs, isi_ti, isi_tn, isi_tb, isi_tt, isi_ts, isi_si, isi_sn, isi_sb, isi_st, isi_ss, isi_ii, isi_in, isi_ib, isi_it, isi_is, x_add, x_sub, x_neg, x_lt, x_le, x_gt, x_ge, x_eqI, x_neI, x_is, x_isNot, x_ixL, x_ixT, x_int, x_abs, x_lenL, x_lenT, x_tupL, x_tupT, x_lstL, x_lstT, x_max2, x_min2, at0, at1, at2, at3, atNat, x_inT, x_inL, x_notInT, x_notInL, x_all, x_any, x_sumI, x_nilI, x_nnilI, x_nnilJ, x_eqT, x_neT, x_eqO, x_eqOI, isNone_oD, oD_n, oD_s, decide_eq_true_eq, decide_eq_false_iff_not, true_and, and_true, Nat.sub_self, Nat.reduceSub, Nat.reduceAdd, ite_true, Option.some_inj, eq_self, isNone, Bool.not_true, Int.reduceEq, decide_true, decide_false, exists_eq_left', exists_eq_left, dl_1, dl_2, eq_nn, ne_nn, rgD_hs, Int.toNat_natCast, List.length_map, cut40]
    unfold newest sureL at q
    refine ⟨fun h => ⟨by omega, ?_⟩, fun h => ?_⟩
    · rw [if_pos (by omega)] at q; exact q
    · rw [if_neg (by omega)] at q; exact q
/-- the greatest number of all -/
def greatestN (told : List (Option Int)) : Option Int := if 0 < ((told.filter Option.isSome).filterMap id).length then some (maxI ((told.filter Option.isSome).filterMap id)) else none
def T_newest_signed : DSp where
  run := fun args xt Q => ∃ told : List (Option Int), args = [.val (tO told)] ∧ told.length ≤ 10000 ∧ Q (.val (oD (greatestN told))) xt
  mono := fun k ⟨t, e, h, q⟩ => ⟨t, e, h, k _ _ q⟩
def r_newest_signed : RS := dSeq (dAsgLc 1 (dLc (dSeqI (dV 0)) (.nm 2) (dB (dOp fIsNot (dV 2) (dC .none))) (dV 2) [2])) (dRet (dIf (dB (dOp fGt (dCB fLen (dCons (dV 1) dNil)) (dC (.int 0)))) (dCB fMax (dCons (dV 1) dNil)) (dC .none)))
theorem pure_newest_signed : PureOk T_newest_signed 1 3 r_newest_signed := by
  rintro _ xt Q _ ⟨told, rfl, hl, q⟩
  unfold r_newest_signed
  simp only [↓e_C, ↓e_V, ↓e_Fz, ↓e_Op, ↓e_Un, ↓e_B, ↓e_Chain, ↓e_AndT, ↓e_OrT, ↓e_NotT, ↓e_AndV, ↓e_OrV, ↓e_NotV, ↓e_If, ↓e_Nil, ↓e_Cons, ↓e_Tup, ↓e_Lst, ↓e_CB, ↓e_CBN, ↓e_Isi, ↓e_TupRg1, ↓e_LstRg1, ↓e_TupRg2, ↓e_LstRg2, ↓e_ScrLen, ↓e_ScrAt, ↓e_SeqI, ↓e_Enum, ↓e_Rng1, ↓e_Rng2, ↓e_Seq, ↓e_Next, ↓e_Break, ↓e_Cont, ↓e_Drop, ↓e_Ret, ↓e_RetN, ↓e_Ret0, ↓e_IfS, ↓e_Asg, ↓e_AsgN, ↓e_AsgLc, ↓e_mNil, ↓e_mVal, ↓e_mNew, ↓e_Par, ↓e_For, ↓e_LoopN, ↓e_LoopC, ↓e_Lc, ↓e_Yes, ↓e_Call, ↓e_CallN, ↓e_Append, ↓e_Extend, ↓e_Pop, ↓e_PopAt, ↓e_SetAt, ↓e_Sl, ↓e_NoP, ↓e_P, ↓e_Aug, ↓e_SrtSet, optP_some, vaP_val, boP_val, inP_val, muP_lst, vals_nil, vals_cons, brP_t, brP_f, brP_d, brP_n, scrOf, rg1, rg2, lstAt, lsOf, nt_of, nt_0, nt_1, slotR, slNew, slMu, slOf, setAll, Dl.En.set, Dl.En.wipe, wipeL, noMu_n, noMu_c, isMu_v, isMu_u, isMu_e, isMu_s, tg_nm, Dl.tg_tup, tgs_nil, tgs_cons, fSl, Rv.d, Rv.m, muD, rvDs, obAt, rvOb, obget_s, obget_e, obput_s, obput_e, put_nil, put_one, conv, argOf, argSlot, argExt, obsMu, seqD, env0, argSl, p_mul, p_mod, p_div, p_pow, p_catT, p_catL, p_maxI, p_minI, List.map_cons, List.map_nil, List.replicate_succ, List.replicate_zero, List.length_cons, List.length_nil, List.nil_append, List.cons_append, List.append_nil, List.getElem?_cons_zero, List.getElem?_cons_succ, List.getElem?_nil, List.set_cons_zero, List.set_cons_succ, List.set_nil, Option.bind_some, Option.bind_none, Option.map_some, Option.map_none, Option.some.injEq, Option.isSome_some, List.all_cons, List.all_nil, List.contains_nil, Bool.and_true, Bool.not_false, Bool.true_and, Rv.val.injEq, PyData.int.injEq, PyData.bool.injEq, PyData.tuple.injEq, PyData.list.injEq, and_assoc, Prod.mk.injEq, reduceCtorEq, Mu.lst.injEq, Int.reducePow, Int.reduceNeg, Int.reduceLT, Int.reduceLE, Int.reduceMul, Int.reduceAdd, Int.reduceSub, Int.reduceToNat, Nat.reduceLT, Nat.reduceLeDiff, Nat.zero_le, or_true, true_or, and_self, not_false_eq_true, forall_const, implies_true, if_true_left, false_or, or_false, p_oD, cut2m, List.all_cons, not_true_eq_false, false_implies, isi_bi, isi_bn, isi_bb, isi_bt, isi_bs, isi_ti, isi_tn, isi_tb, isi_tt, isi_ts, isi_si, isi_sn, isi_sb, isi_st, isi_ss, isi_ii, isi_in, isi_ib, isi_it, isi_is, x_add, x_sub, x_neg, x_lt, x_le, x_gt, x_ge, x_eqI, x_neI, x_is, x_isNot, x_ixL, x_ixT, x_int, x_abs, x_lenL, x_lenT, x_tupL, x_tupT, x_lstL, x_lstT, x_max2, x_min2, at0, at1, at2, at3, atNat, x_inT, x_inL, x_notInT, x_notInL, x_all, x_any, x_sumI, x_nilI, x_nnilI, x_nnilJ, x_eqT, x_neT, x_eqO, x_eqOI, isNone_oD, oD_n, oD_s, decide_eq_true_eq, decide_eq_false_iff_not, true_and, and_true, Nat.sub_self, Nat.reduceSub, Nat.reduceAdd, ite_true, Option.some_inj, eq_self, isNone, Bool.not_true, Int.reduceEq, decide_true, decide_false, exists_eq_left', exists_eq_left, dl_1, dl_2, eq_nn, ne_nn, rgD_hs, Int.toNat_natCast, List.length_map, cut40]
  refine lcGo_fil (enc := oD) Option.isSome oD told hl (fun o ho => ⟨_, rfl, rfl, fun QT h => ?_, fun _ QE h => ?_⟩) ?_
  · cases o with
    | none => simp only [↓e_C, ↓e_V, ↓e_Fz, ↓e_Op, ↓e_Un, ↓e_B, ↓e_Chain, ↓e_AndT, ↓e_OrT, ↓e_NotT, ↓e_AndV, ↓e_OrV, ↓e_NotV, ↓e_If, ↓e_Nil, ↓e_Cons, ↓e_Tup, ↓e_Lst, ↓e_CB, ↓e_CBN, ↓e_Isi, ↓e_TupRg1, ↓e_LstRg1, ↓e_TupRg2, ↓e_LstRg2, ↓e_ScrLen, ↓e_ScrAt, ↓e_SeqI, ↓e_Enum, ↓e_Rng1, ↓e_Rng2, ↓e_Seq, ↓e_Next, ↓e_Break, ↓e_Cont, ↓e_Drop, ↓e_Ret, ↓e_RetN, ↓e_Ret0, ↓e_IfS, ↓e_Asg, ↓e_AsgN, ↓e_AsgLc, ↓e_mNil, ↓e_mVal, ↓e_mNew, ↓e_Par, ↓e_For, ↓e_LoopN, ↓e_LoopC, ↓e_Lc, ↓e_Yes, ↓e_Call, ↓e_CallN, ↓e_Append, ↓e_Extend, ↓e_Pop, ↓e_PopAt, ↓e_SetAt, ↓e_Sl, ↓e_NoP, ↓e_P, ↓e_Aug, ↓e_SrtSet, optP_some, vaP_val, boP_val, inP_val, muP_lst, vals_nil, vals_cons, brP_t, brP_f, brP_d, brP_n, scrOf, rg1, rg2, lstAt, lsOf, nt_of, nt_0, nt_1, slotR, slNew, slMu, slOf, setAll, Dl.En.set, Dl.En.wipe, wipeL, noMu_n, noMu_c, isMu_v, isMu_u, isMu_e, isMu_s, tg_nm, Dl.tg_tup, tgs_nil, tgs_cons, fSl, Rv.d, Rv.m, muD, rvDs, obAt, rvOb, obget_s, obget_e, obput_s, obput_e, put_nil, put_one, conv, argOf, argSlot, argExt, obsMu, seqD, env0, argSl, p_mul, p_mod, p_div, p_pow, p_catT, p_catL, p_maxI, p_minI, List.map_cons, List.map_nil, List.replicate_succ, List.replicate_zero, List.length_cons, List.length_nil, List.nil_append, List.cons_append, List.append_nil, List.getElem?_cons_zero, List.getElem?_cons_succ, List.getElem?_nil, List.set_cons_zero, List.set_cons_succ, List.set_nil, Option.bind_some, Option.bind_none, Option.map_some, Option.map_none, Option.some.injEq, Option.isSome_some, List.all_cons, List.all_nil, List.contains_nil, Bool.and_true, Bool.not_false, Bool.true_and, Rv.val.injEq, PyData.int.injEq, PyData.bool.injEq, PyData.tuple.injEq, PyData.list.injEq, and_assoc, Prod.mk.injEq, reduceCtorEq, Mu.lst.injEq, Int.reducePow, Int.reduceNeg, Int.reduceLT, Int.reduceLE, Int.reduceMul, Int.reduceAdd, Int.reduceSub, Int.reduceToNat, Nat.reduceLT, Nat.reduceLeDiff, Nat.zero_le, or_true, true_or, and_self, not_false_eq_true, forall_const, implies_true, if_true_left, false_or, or_false, p_oD, cut2m, List.all_cons, not_true_eq_false, false_implies, isi_bi, isi_bn, isi_bb, isi_bt, isi_bs, isi_ti, isi_tn, isi_tb, isi_tt, isi_ts, isi_si, isi_sn, isi_sb, isi_st, isi_ss, isi_ii, isi_in, isi_ib, isi_it, isi_is, x_add, x_sub, x_neg, x_lt, x_le, x_gt, x_ge, x_eqI, x_neI, x_is, x_isNot, x_ixL, x_ixT, x_int, x_abs, x_lenL, x_lenT, x_tupL, x_tupT, x_lstL, x_lstT, x_max2, x_min2, at0, at1, at2, at3, atNat, x_inT, x_inL, x_notInT, x_notInL, x_all, x_any, x_sumI, x_nilI, x_nnilI, x_nnilJ, x_eqT, x_neT, x_eqO, x_eqOI, isNone_oD, oD_n, oD_s, decide_eq_true_eq, decide_eq_false_iff_not, true_and, and_true, Nat.sub_self, Nat.reduceSub, Nat.reduceAdd, ite_true, Option.some_inj, eq_self, isNone, Bool.not_true, Int.reduceEq, decide_true, decide_false, exists_eq_left', exists_eq_left, dl_1, dl_2, eq_nn, ne_nn, rgD_hs, Int.toNat_natCast, List.length_map, cut40]; exact h
    | some n => simp only [↓e_C, ↓e_V, ↓e_Fz, ↓e_Op, ↓e_Un, ↓e_B, ↓e_Chain, ↓e_AndT, ↓e_OrT, ↓e_NotT, ↓e_AndV, ↓e_OrV, ↓e_NotV, ↓e_If, ↓e_Nil, ↓e_Cons, ↓e_Tup, ↓e_Lst, ↓e_CB, ↓e_CBN, ↓e_Isi, ↓e_TupRg1, ↓e_LstRg1, ↓e_TupRg2, ↓e_LstRg2, ↓e_ScrLen, ↓e_ScrAt, ↓e_SeqI, ↓e_Enum, ↓e_Rng1, ↓e_Rng2, ↓e_Seq, ↓e_Next, ↓e_Break, ↓e_Cont, ↓e_Drop, ↓e_Ret, ↓e_RetN, ↓e_Ret0, ↓e_IfS, ↓e_Asg, ↓e_AsgN, ↓e_AsgLc, ↓e_mNil, ↓e_mVal, ↓e_mNew, ↓e_Par, ↓e_For, ↓e_LoopN, ↓e_LoopC, ↓e_Lc, ↓e_Yes, ↓e_Call, ↓e_CallN, ↓e_Append, ↓e_Extend, ↓e_Pop, ↓e_PopAt, ↓e_SetAt, ↓e_Sl, ↓e_NoP, ↓e_P, ↓e_Aug, ↓e_SrtSet, optP_some, vaP_val, boP_val, inP_val, muP_lst, vals_nil, vals_cons, brP_t, brP_f, brP_d, brP_n, scrOf, rg1, rg2, lstAt, lsOf, nt_of, nt_0, nt_1, slotR, slNew, slMu, slOf, setAll, Dl.En.set, Dl.En.wipe, wipeL, noMu_n, noMu_c, isMu_v, isMu_u, isMu_e, isMu_s, tg_nm, Dl.tg_tup, tgs_nil, tgs_cons, fSl, Rv.d, Rv.m, muD, rvDs, obAt, rvOb, obget_s, obget_e, obput_s, obput_e, put_nil, put_one, conv, argOf, argSlot, argExt, obsMu, seqD, env0, argSl, p_mul, p_mod, p_div, p_pow, p_catT, p_catL, p_maxI, p_minI, List.map_cons, List.map_nil, List.replicate_succ, List.replicate_zero, List.length_cons, List.length_nil, List.nil_append, List.cons_append, List.append_nil, List.getElem?_cons_zero, List.getElem?_cons_succ, List.getElem?_nil, List.set_cons_zero, List.set_cons_succ, List.set_nil, Option.bind_some, Option.bind_none, Option.map_some, Option.map_none, Option.some.injEq, Option.isSome_some, List.all_cons, List.all_nil, List.contains_nil, Bool.and_true, Bool.not_false, Bool.true_and, Rv.val.injEq, PyData.int.injEq, PyData.bool.injEq, PyData.tuple.injEq, PyData.list.injEq, and_assoc, Prod.mk.injEq, reduceCtorEq, Mu.lst.injEq, Int.reducePow, Int.reduceNeg, Int.reduceLT, Int.reduceLE, Int.reduceMul, Int.reduceAdd, Int.reduceSub, Int.reduceToNat, Nat.reduceLT, Nat.reduceLeDiff, Nat.zero_le, or_true, true_or, and_self, not_false_eq_true, forall_const, implies_true, if_true_left, false_or, or_false, p_oD, cut2m, List.all_cons, not_true_eq_false, false_implies, isi_bi, isi_bn, isi_bb, isi_bt, isi_bs, isi_ti, isi_tn, isi_tb, isi_tt, isi_ts, isi_si, isi_sn, isi_sb, isi_st, isi_ss, isi_ii, isi_in, isi_ib, isi_it, isi_is, x_add, x_sub, x_neg, x_lt, x_le, x_gt, x_ge, x_eqI, x_neI, x_is, x_isNot, x_ixL, x_ixT, x_int, x_abs, x_lenL, x_lenT, x_tupL, x_tupT, x_lstL, x_lstT, x_max2, x_min2, at0, at1, at2, at3, atNat, x_inT, x_inL, x_notInT, x_notInL, x_all, x_any, x_sumI, x_nilI, x_nnilI, x_nnilJ, x_eqT, x_neT, x_eqO, x_eqOI, isNone_oD, oD_n, oD_s, decide_eq_true_eq, decide_eq_false_iff_not, true_and, and_true, Nat.sub_self, Nat.reduceSub, Nat.reduceAdd, ite_true, Option.some_inj, eq_self, isNone, Bool.not_true, Int.reduceEq, decide_true, decide_false, exists_eq_left', exists_eq_left, dl_1, dl_2, eq_nn, ne_nn, rgD_hs, Int.toNat_natCast, List.length_map, cut40]; exact h
  · simp only [↓e_C, ↓e_V, ↓e_Fz, ↓e_Op, ↓e_Un, ↓e_B, ↓e_Chain, ↓e_AndT, ↓e_OrT, ↓e_NotT, ↓e_AndV, ↓e_OrV, ↓e_NotV, ↓e_If, ↓e_Nil, ↓e_Cons, ↓e_Tup, ↓e_Lst, ↓e_CB, ↓e_CBN, ↓e_Isi, ↓e_TupRg1, ↓e_LstRg1, ↓e_TupRg2, ↓e_LstRg2, ↓e_ScrLen, ↓e_ScrAt, ↓e_SeqI, ↓e_Enum, ↓e_Rng1, ↓e_Rng2, ↓e_Seq, ↓e_Next, ↓e_Break, ↓e_Cont, ↓e_Drop, ↓e_Ret, ↓e_RetN, ↓e_Ret0, ↓e_IfS, ↓e_Asg, ↓e_AsgN, ↓e_AsgLc, ↓e_mNil, ↓e_mVal, ↓e_mNew, ↓e_Par, ↓e_For, ↓e_LoopN, ↓e_LoopC, ↓e_Lc, ↓e_Yes, ↓e_Call, ↓e_CallN, ↓e_Append, ↓e_Extend, ↓e_Pop, ↓e_PopAt, ↓e_SetAt, ↓e_Sl, ↓e_NoP, ↓e_P, ↓e_Aug, ↓e_SrtSet, optP_some, vaP_val, boP_val, inP_val, muP_lst, vals_nil, vals_cons, brP_t, brP_f, brP_d, brP_n, scrOf, rg1, rg2, lstAt, lsOf, nt_of, nt_0, nt_1, slotR, slNew, slMu, slOf, setAll, Dl.En.set, Dl.En.wipe, wipeL, noMu_n, noMu_c, isMu_v, isMu_u, isMu_e, isMu_s, tg_nm, Dl.tg_tup, tgs_nil, tgs_cons, fSl, Rv.d, Rv.m, muD, rvDs, obAt, rvOb, obget_s, obget_e, obput_s, obput_e, put_nil, put_one, conv, argOf, argSlot, argExt, obsMu, seqD, env0, argSl, p_mul, p_mod, p_div, p_pow, p_catT, p_catL, p_maxI, p_minI, List.map_cons, List.map_nil, List.replicate_succ, List.replicate_zero, List.length_cons, List.length_nil, List.nil_append, List.cons_append, List.append_nil, List.getElem?_cons_zero, List.getElem?_cons_succ, List.getElem?_nil, List.set_cons_zero, List.set_cons_succ, List.set_nil, Option.bind_some, Option.bind_none, Option.map_some, Option.map_none, Option.some.injEq, Option.isSome_some, List.all_cons, List.all_nil, List.contains_nil, Bool.and_true, Bool.not_false, Bool.true_and, Rv.val.injEq, PyData.int.injEq, PyData.bool.injEq, PyData.tuple.injEq, PyData.list.injEq, and_assoc, Prod.mk.injEq, reduceCtorEq, Mu.lst.injEq, Int.reducePow, Int.reduceNeg, Int.reduceLT, Int.reduceLE, Int.reduceMul, Int.reduceAdd, Int.reduceSub, Int.reduceToNat, Nat.reduceLT, Nat.reduceLeDiff, Nat.zero_le, or_true, true_or, and_self, not_false_eq_true, forall_const, implies_true, if_true_left, false_or, or_false, p_oD, cut2m, List.all_cons, not_true_eq_false, false_implies, isi_bi, isi_bn, isi_bb, isi_bt, isi_bs, isi_ti, isi_tn, isi_tb, isi_tt, isi_ts, isi_si, isi_sn, isi_sb, isi_st, isi_ss, isi_ii, isi_in, isi_ib, isi_it, isi_is, x_add, x_sub, x_neg, x_lt, x_le, x_gt, x_ge, x_eqI, x_neI, x_is, x_isNot, x_ixL, x_ixT, x_int, x_abs, x_lenL, x_lenT, x_tupL, x_tupT, x_lstL, x_lstT, x_max2, x_min2, at0, at1, at2, at3, atNat, x_inT, x_inL, x_notInT, x_notInL, x_all, x_any, x_sumI, x_nilI, x_nnilI, x_nnilJ, x_eqT, x_neT, x_eqO, x_eqOI, isNone_oD, oD_n, oD_s, decide_eq_true_eq, decide_eq_false_iff_not, true_and, and_true, Nat.sub_self, Nat.reduceSub, Nat.reduceAdd, ite_true, Option.some_inj, eq_self, isNone, Bool.not_true, Int.reduceEq, decide_true, decide_false, exists_eq_left', exists_eq_left, dl_1, dl_2, eq_nn, ne_nn, rgD_hs, Int.toNat_natCast, List.length_map, cut40]
    exact h
  · rw [somes _ rfl]
    simp only [↓e_C, ↓e_V, ↓e_Fz, ↓e_Op, ↓e_Un, ↓e_B, ↓e_Chain, ↓e_AndT, ↓e_OrT, ↓e_NotT, ↓e_AndV, ↓e_OrV, ↓e_NotV, ↓e_If, ↓e_Nil, ↓e_Cons, ↓e_Tup, ↓e_Lst, ↓e_CB, ↓e_CBN, ↓e_Isi, ↓e_TupRg1, ↓e_LstRg1, ↓e_TupRg2, ↓e_LstRg2, ↓e_ScrLen, ↓e_ScrAt, ↓e_SeqI, ↓e_Enum, ↓e_Rng1, ↓e_Rng2, ↓e_Seq, ↓e_Next, ↓e_Break, ↓e_Cont, ↓e_Drop, ↓e_Ret, ↓e_RetN, ↓e_Ret0, ↓e_IfS, ↓e_Asg, ↓e_AsgN, ↓e_AsgLc, ↓e_mNil, ↓e_mVal, ↓e_mNew, ↓e_Par, ↓e_For, ↓e_LoopN, ↓e_LoopC, ↓e_Lc, ↓e_Yes, ↓e_Call, ↓e_CallN, ↓e_Append, ↓e_Extend, ↓e_Pop, ↓e_PopAt, ↓e_SetAt, ↓e_Sl, ↓e_NoP, ↓e_P, ↓e_Aug, ↓e_SrtSet, optP_some, vaP_val, boP_val, inP_val, muP_lst, vals_nil, vals_cons, brP_t, brP_f, brP_d, brP_n, scrOf, rg1, rg2, lstAt, lsOf, nt_of, nt_0, nt_1, slotR, slNew, slMu, slOf, setAll, Dl.En.set, Dl.En.wipe, wipeL, noMu_n, noMu_c, isMu_v, isMu_u, isMu_e, isMu_s, tg_nm, Dl.tg_tup, tgs_nil, tgs_cons, fSl, Rv.d, Rv.m, muD, rvDs, obAt, rvOb, obget_s, obget_e, obput_s, obput_e, put_nil, put_one, conv, argOf, argSlot, argExt, obsMu, seqD, env0, argSl, p_mul, p_mod, p_div, p_pow, p_catT, p_catL, p_maxI, p_minI, List.map_cons, List.map_nil, List.replicate_succ, List.replicate_zero, List.length_cons, List.length_nil, List.nil_append, List.cons_append, List.append_nil, List.getElem?_cons_zero, List.getElem?_cons_succ, List.getElem?_nil, List.set_cons_zero, List.set_cons_succ, List.set_nil, Option.bind_some, Option.bind_none, Option.map_some, Option.map_none, Option.some.injEq, Option.isSome_some, List.all_cons, List.all_nil, List.contains_nil, Bool.and_true, Bool.not_false, Bool.true_and, Rv.val.injEq, PyData.int.injEq, PyData.bool.injEq, PyData.tuple.injEq, PyData.list.injEq, and_assoc, Prod.mk.injEq, reduceCtorEq, Mu.lst.injEq, Int.reducePow, Int.reduceNeg, Int.reduceLT, Int.reduceLE, Int.reduceMul, Int.reduceAdd, Int.reduceSub, Int.reduceToNat, Nat.reduceLT, Nat.reduceLeDiff, Nat.zero_le, or_true, true_or, and_self, not_false_eq_true, forall_const, implies_true, if_true_left, false_or, or_false, p_oD, cut2m, List.all_cons, not_true_eq_false, false_implies, isi_bi, isi_bn, isi_bb, isi_bt, isi_bs, isi_ti, isi_tn, isi_tb, isi_tt, isi_ts, isi_si, isi_sn, isi_sb, isi_st, isi_ss, isi_ii, isi_in, isi_ib, isi_it, isi_is, x_add, x_sub, x_neg, x_lt, x_le, x_gt, x_ge, x_eqI, x_neI, x_is, x_isNot, x_ixL, x_ixT, x_int, x_abs, x_lenL, x_lenT, x_tupL, x_tupT, x_lstL, x_lstT, x_max2, x_min2, at0, at1, at2, at3, atNat, x_inT, x_inL, x_notInT, x_notInL, x_all, x_any, x_sumI, x_nilI, x_nnilI, x_nnilJ, x_eqT, x_neT, x_eqO, x_eqOI, isNone_oD, oD_n, oD_s, decide_eq_true_eq, decide_eq_false_iff_not, true_and, and_true, Nat.sub_self, Nat.reduceSub, Nat.reduceAdd, ite_true, Option.some_inj, eq_self, isNone, Bool.not_true, Int.reduceEq, decide_true, decide_false, exists_eq_left', exists_eq_left, dl_1, dl_2, eq_nn, ne_nn, rgD_hs, Int.toNat_natCast, List.length_map, cut40]
    unfold greatestN at q
    refine ⟨fun h => ⟨by omega, ?_⟩, fun h => ?_⟩
    · rw [if_pos (by omega)] at q; exact q
    · rw [if_neg (by omega)] at q; exact q
/-- the law's own -/
def T__law_newest : DSp where
  run := fun args xt Q => ∃ (f : List (List Int)) (told : List (Option Int)), args = [.val (tF f), .val (.list (told.map oD))] ∧ f.length ≤ 10000 ∧ told.length ≤ 10000 ∧ Q (.val (oD (newest f told))) xt
  mono := fun k ⟨f, t, e, h, h2, q⟩ => ⟨f, t, e, h, h2, k _ _ q⟩
def r__law_newest : RS := dSeq (dAsgLc 2 (dLc (dSeqI (dV 1)) (.nm 3) (dAndT (dB (dOp fIsNot (dV 3) (dC .none))) (dNotT (dB (dCall T__law_may 2 [false, false] (dCons (dV 0) (dCons (dCB fTuple (dCons (dFz (dLc (dRng1 (dCons (dCB fLen (dCons (dV 1) dNil)) dNil)) (.nm 4) (dB (dOp fEq (dOp fIx (dV 1) (dV 4)) (dV 3))) (dV 4) [4])) dNil)) dNil)))))) (dV 3) [3])) (dRet (dIf (dB (dOp fNe (dV 2) (dFz (dLst dNil)))) (dCB fMax (dCons (dV 2) dNil)) (dC .none)))
theorem pure__law_newest : PureOk T__law_newest 2 5 r__law_newest := by
  rintro _ xt Q _ ⟨f, told, rfl, hf, hl, q⟩
  unfold r__law_newest
  simp only [↓e_C, ↓e_V, ↓e_Fz, ↓e_Op, ↓e_Un, ↓e_B, ↓e_Chain, ↓e_AndT, ↓e_OrT, ↓e_NotT, ↓e_AndV, ↓e_OrV, ↓e_NotV, ↓e_If, ↓e_Nil, ↓e_Cons, ↓e_Tup, ↓e_Lst, ↓e_CB, ↓e_CBN, ↓e_Isi, ↓e_TupRg1, ↓e_LstRg1, ↓e_TupRg2, ↓e_LstRg2, ↓e_ScrLen, ↓e_ScrAt, ↓e_SeqI, ↓e_Enum, ↓e_Rng1, ↓e_Rng2, ↓e_Seq, ↓e_Next, ↓e_Break, ↓e_Cont, ↓e_Drop, ↓e_Ret, ↓e_RetN, ↓e_Ret0, ↓e_IfS, ↓e_Asg, ↓e_AsgN, ↓e_AsgLc, ↓e_mNil, ↓e_mVal, ↓e_mNew, ↓e_Par, ↓e_For, ↓e_LoopN, ↓e_LoopC, ↓e_Lc, ↓e_Yes, ↓e_Call, ↓e_CallN, ↓e_Append, ↓e_Extend, ↓e_Pop, ↓e_PopAt, ↓e_SetAt, ↓e_Sl, ↓e_NoP, ↓e_P, ↓e_Aug, ↓e_SrtSet, optP_some, vaP_val, boP_val, inP_val, muP_lst, vals_nil, vals_cons, brP_t, brP_f, brP_d, brP_n, scrOf, rg1, rg2, lstAt, lsOf, nt_of, nt_0, nt_1, slotR, slNew, slMu, slOf, setAll, Dl.En.set, Dl.En.wipe, wipeL, noMu_n, noMu_c, isMu_v, isMu_u, isMu_e, isMu_s, tg_nm, Dl.tg_tup, tgs_nil, tgs_cons, fSl, Rv.d, Rv.m, muD, rvDs, obAt, rvOb, obget_s, obget_e, obput_s, obput_e, put_nil, put_one, conv, argOf, argSlot, argExt, obsMu, seqD, env0, argSl, p_mul, p_mod, p_div, p_pow, p_catT, p_catL, p_maxI, p_minI, List.map_cons, List.map_nil, List.replicate_succ, List.replicate_zero, List.length_cons, List.length_nil, List.nil_append, List.cons_append, List.append_nil, List.getElem?_cons_zero, List.getElem?_cons_succ, List.getElem?_nil, List.set_cons_zero, List.set_cons_succ, List.set_nil, Option.bind_some, Option.bind_none, Option.map_some, Option.map_none, Option.some.injEq, Option.isSome_some, List.all_cons, List.all_nil, List.contains_nil, Bool.and_true, Bool.not_false, Bool.true_and, Rv.val.injEq, PyData.int.injEq, PyData.bool.injEq, PyData.tuple.injEq, PyData.list.injEq, and_assoc, Prod.mk.injEq, reduceCtorEq, Mu.lst.injEq, Int.reducePow, Int.reduceNeg, Int.reduceLT, Int.reduceLE, Int.reduceMul, Int.reduceAdd, Int.reduceSub, Int.reduceToNat, Nat.reduceLT, Nat.reduceLeDiff, Nat.zero_le, or_true, true_or, and_self, not_false_eq_true, forall_const, implies_true, if_true_left, false_or, or_false, p_oD, cut2m, List.all_cons, not_true_eq_false, false_implies, isi_bi, isi_bn, isi_bb, isi_bt, isi_bs, isi_ti, isi_tn, isi_tb, isi_tt, isi_ts, isi_si, isi_sn, isi_sb, isi_st, isi_ss, isi_ii, isi_in, isi_ib, isi_it, isi_is, x_add, x_sub, x_neg, x_lt, x_le, x_gt, x_ge, x_eqI, x_neI, x_is, x_isNot, x_ixL, x_ixT, x_int, x_abs, x_lenL, x_lenT, x_tupL, x_tupT, x_lstL, x_lstT, x_max2, x_min2, at0, at1, at2, at3, atNat, x_inT, x_inL, x_notInT, x_notInL, x_all, x_any, x_sumI, x_nilI, x_nnilI, x_nnilJ, x_eqT, x_neT, x_eqO, x_eqOI, isNone_oD, oD_n, oD_s, decide_eq_true_eq, decide_eq_false_iff_not, true_and, and_true, Nat.sub_self, Nat.reduceSub, Nat.reduceAdd, ite_true, Option.some_inj, eq_self, isNone, Bool.not_true, Int.reduceEq, decide_true, decide_false, exists_eq_left', exists_eq_left, dl_1, dl_2, eq_nn, ne_nn, rgD_hs, Int.toNat_natCast, List.length_map, cut40]
  refine lcGo_fil (enc := oD) (sureB f told) oD told hl (fun o ho => ⟨_, rfl, rfl, fun QT h => ?_, fun _ QE h => ?_⟩) ?_
  · cases o with
    | none => simp only [↓e_C, ↓e_V, ↓e_Fz, ↓e_Op, ↓e_Un, ↓e_B, ↓e_Chain, ↓e_AndT, ↓e_OrT, ↓e_NotT, ↓e_AndV, ↓e_OrV, ↓e_NotV, ↓e_If, ↓e_Nil, ↓e_Cons, ↓e_Tup, ↓e_Lst, ↓e_CB, ↓e_CBN, ↓e_Isi, ↓e_TupRg1, ↓e_LstRg1, ↓e_TupRg2, ↓e_LstRg2, ↓e_ScrLen, ↓e_ScrAt, ↓e_SeqI, ↓e_Enum, ↓e_Rng1, ↓e_Rng2, ↓e_Seq, ↓e_Next, ↓e_Break, ↓e_Cont, ↓e_Drop, ↓e_Ret, ↓e_RetN, ↓e_Ret0, ↓e_IfS, ↓e_Asg, ↓e_AsgN, ↓e_AsgLc, ↓e_mNil, ↓e_mVal, ↓e_mNew, ↓e_Par, ↓e_For, ↓e_LoopN, ↓e_LoopC, ↓e_Lc, ↓e_Yes, ↓e_Call, ↓e_CallN, ↓e_Append, ↓e_Extend, ↓e_Pop, ↓e_PopAt, ↓e_SetAt, ↓e_Sl, ↓e_NoP, ↓e_P, ↓e_Aug, ↓e_SrtSet, optP_some, vaP_val, boP_val, inP_val, muP_lst, vals_nil, vals_cons, brP_t, brP_f, brP_d, brP_n, scrOf, rg1, rg2, lstAt, lsOf, nt_of, nt_0, nt_1, slotR, slNew, slMu, slOf, setAll, Dl.En.set, Dl.En.wipe, wipeL, noMu_n, noMu_c, isMu_v, isMu_u, isMu_e, isMu_s, tg_nm, Dl.tg_tup, tgs_nil, tgs_cons, fSl, Rv.d, Rv.m, muD, rvDs, obAt, rvOb, obget_s, obget_e, obput_s, obput_e, put_nil, put_one, conv, argOf, argSlot, argExt, obsMu, seqD, env0, argSl, p_mul, p_mod, p_div, p_pow, p_catT, p_catL, p_maxI, p_minI, List.map_cons, List.map_nil, List.replicate_succ, List.replicate_zero, List.length_cons, List.length_nil, List.nil_append, List.cons_append, List.append_nil, List.getElem?_cons_zero, List.getElem?_cons_succ, List.getElem?_nil, List.set_cons_zero, List.set_cons_succ, List.set_nil, Option.bind_some, Option.bind_none, Option.map_some, Option.map_none, Option.some.injEq, Option.isSome_some, List.all_cons, List.all_nil, List.contains_nil, Bool.and_true, Bool.not_false, Bool.true_and, Rv.val.injEq, PyData.int.injEq, PyData.bool.injEq, PyData.tuple.injEq, PyData.list.injEq, and_assoc, Prod.mk.injEq, reduceCtorEq, Mu.lst.injEq, Int.reducePow, Int.reduceNeg, Int.reduceLT, Int.reduceLE, Int.reduceMul, Int.reduceAdd, Int.reduceSub, Int.reduceToNat, Nat.reduceLT, Nat.reduceLeDiff, Nat.zero_le, or_true, true_or, and_self, not_false_eq_true, forall_const, implies_true, if_true_left, false_or, or_false, p_oD, cut2m, List.all_cons, not_true_eq_false, false_implies, isi_bi, isi_bn, isi_bb, isi_bt, isi_bs, isi_ti, isi_tn, isi_tb, isi_tt, isi_ts, isi_si, isi_sn, isi_sb, isi_st, isi_ss, isi_ii, isi_in, isi_ib, isi_it, isi_is, x_add, x_sub, x_neg, x_lt, x_le, x_gt, x_ge, x_eqI, x_neI, x_is, x_isNot, x_ixL, x_ixT, x_int, x_abs, x_lenL, x_lenT, x_tupL, x_tupT, x_lstL, x_lstT, x_max2, x_min2, at0, at1, at2, at3, atNat, x_inT, x_inL, x_notInT, x_notInL, x_all, x_any, x_sumI, x_nilI, x_nnilI, x_nnilJ, x_eqT, x_neT, x_eqO, x_eqOI, isNone_oD, oD_n, oD_s, decide_eq_true_eq, decide_eq_false_iff_not, true_and, and_true, Nat.sub_self, Nat.reduceSub, Nat.reduceAdd, ite_true, Option.some_inj, eq_self, isNone, Bool.not_true, Int.reduceEq, decide_true, decide_false, exists_eq_left', exists_eq_left, dl_1, dl_2, eq_nn, ne_nn, rgD_hs, Int.toNat_natCast, List.length_map, cut40]; exact h
    | some n =>
      simp only [↓e_C, ↓e_V, ↓e_Fz, ↓e_Op, ↓e_Un, ↓e_B, ↓e_Chain, ↓e_AndT, ↓e_OrT, ↓e_NotT, ↓e_AndV, ↓e_OrV, ↓e_NotV, ↓e_If, ↓e_Nil, ↓e_Cons, ↓e_Tup, ↓e_Lst, ↓e_CB, ↓e_CBN, ↓e_Isi, ↓e_TupRg1, ↓e_LstRg1, ↓e_TupRg2, ↓e_LstRg2, ↓e_ScrLen, ↓e_ScrAt, ↓e_SeqI, ↓e_Enum, ↓e_Rng1, ↓e_Rng2, ↓e_Seq, ↓e_Next, ↓e_Break, ↓e_Cont, ↓e_Drop, ↓e_Ret, ↓e_RetN, ↓e_Ret0, ↓e_IfS, ↓e_Asg, ↓e_AsgN, ↓e_AsgLc, ↓e_mNil, ↓e_mVal, ↓e_mNew, ↓e_Par, ↓e_For, ↓e_LoopN, ↓e_LoopC, ↓e_Lc, ↓e_Yes, ↓e_Call, ↓e_CallN, ↓e_Append, ↓e_Extend, ↓e_Pop, ↓e_PopAt, ↓e_SetAt, ↓e_Sl, ↓e_NoP, ↓e_P, ↓e_Aug, ↓e_SrtSet, optP_some, vaP_val, boP_val, inP_val, muP_lst, vals_nil, vals_cons, brP_t, brP_f, brP_d, brP_n, scrOf, rg1, rg2, lstAt, lsOf, nt_of, nt_0, nt_1, slotR, slNew, slMu, slOf, setAll, Dl.En.set, Dl.En.wipe, wipeL, noMu_n, noMu_c, isMu_v, isMu_u, isMu_e, isMu_s, tg_nm, Dl.tg_tup, tgs_nil, tgs_cons, fSl, Rv.d, Rv.m, muD, rvDs, obAt, rvOb, obget_s, obget_e, obput_s, obput_e, put_nil, put_one, conv, argOf, argSlot, argExt, obsMu, seqD, env0, argSl, p_mul, p_mod, p_div, p_pow, p_catT, p_catL, p_maxI, p_minI, List.map_cons, List.map_nil, List.replicate_succ, List.replicate_zero, List.length_cons, List.length_nil, List.nil_append, List.cons_append, List.append_nil, List.getElem?_cons_zero, List.getElem?_cons_succ, List.getElem?_nil, List.set_cons_zero, List.set_cons_succ, List.set_nil, Option.bind_some, Option.bind_none, Option.map_some, Option.map_none, Option.some.injEq, Option.isSome_some, List.all_cons, List.all_nil, List.contains_nil, Bool.and_true, Bool.not_false, Bool.true_and, Rv.val.injEq, PyData.int.injEq, PyData.bool.injEq, PyData.tuple.injEq, PyData.list.injEq, and_assoc, Prod.mk.injEq, reduceCtorEq, Mu.lst.injEq, Int.reducePow, Int.reduceNeg, Int.reduceLT, Int.reduceLE, Int.reduceMul, Int.reduceAdd, Int.reduceSub, Int.reduceToNat, Nat.reduceLT, Nat.reduceLeDiff, Nat.zero_le, or_true, true_or, and_self, not_false_eq_true, forall_const, implies_true, if_true_left, false_or, or_false, p_oD, cut2m, List.all_cons, not_true_eq_false, false_implies, isi_bi, isi_bn, isi_bb, isi_bt, isi_bs, isi_ti, isi_tn, isi_tb, isi_tt, isi_ts, isi_si, isi_sn, isi_sb, isi_st, isi_ss, isi_ii, isi_in, isi_ib, isi_it, isi_is, x_add, x_sub, x_neg, x_lt, x_le, x_gt, x_ge, x_eqI, x_neI, x_is, x_isNot, x_ixL, x_ixT, x_int, x_abs, x_lenL, x_lenT, x_tupL, x_tupT, x_lstL, x_lstT, x_max2, x_min2, at0, at1, at2, at3, atNat, x_inT, x_inL, x_notInT, x_notInL, x_all, x_any, x_sumI, x_nilI, x_nnilI, x_nnilJ, x_eqT, x_neT, x_eqO, x_eqOI, isNone_oD, oD_n, oD_s, decide_eq_true_eq, decide_eq_false_iff_not, true_and, and_true, Nat.sub_self, Nat.reduceSub, Nat.reduceAdd, ite_true, Option.some_inj, eq_self, isNone, Bool.not_true, Int.reduceEq, decide_true, decide_false, exists_eq_left', exists_eq_left, dl_1, dl_2, eq_nn, ne_nn, rgD_hs, Int.toNat_natCast, List.length_map, cut40]
      refine ⟨by omega, by omega, ?_⟩
      unfold hsI
      rw [List.map_map]
      refine lcGo_fil (enc := fun (i : Nat) => PyData.int (i : Int)) (fun i => decide (told[i]? = some (some n))) (fun i => PyData.int (i : Nat)) (List.range told.length) (by simpa using hl) (fun i hi => ⟨_, rfl, rfl, fun QT h => ?_, fun _ QE h => ?_⟩) ?_
      · have hi' : i < told.length := List.mem_range.mp hi
        simp only [↓e_C, ↓e_V, ↓e_Fz, ↓e_Op, ↓e_Un, ↓e_B, ↓e_Chain, ↓e_AndT, ↓e_OrT, ↓e_NotT, ↓e_AndV, ↓e_OrV, ↓e_NotV, ↓e_If, ↓e_Nil, ↓e_Cons, ↓e_Tup, ↓e_Lst, ↓e_CB, ↓e_CBN, ↓e_Isi, ↓e_TupRg1, ↓e_LstRg1, ↓e_TupRg2, ↓e_LstRg2, ↓e_ScrLen, ↓e_ScrAt, ↓e_SeqI, ↓e_Enum, ↓e_Rng1, ↓e_Rng2, ↓e_Seq, ↓e_Next, ↓e_Break, ↓e_Cont, ↓e_Drop, ↓e_Ret, ↓e_RetN, ↓e_Ret0, ↓e_IfS, ↓e_Asg, ↓e_AsgN, ↓e_AsgLc, ↓e_mNil, ↓e_mVal, ↓e_mNew, ↓e_Par, ↓e_For, ↓e_LoopN, ↓e_LoopC, ↓e_Lc, ↓e_Yes, ↓e_Call, ↓e_CallN, ↓e_Append, ↓e_Extend, ↓e_Pop, ↓e_PopAt, ↓e_SetAt, ↓e_Sl, ↓e_NoP, ↓e_P, ↓e_Aug, ↓e_SrtSet, optP_some, vaP_val, boP_val, inP_val, muP_lst, vals_nil, vals_cons, brP_t, brP_f, brP_d, brP_n, scrOf, rg1, rg2, lstAt, lsOf, nt_of, nt_0, nt_1, slotR, slNew, slMu, slOf, setAll, Dl.En.set, Dl.En.wipe, wipeL, noMu_n, noMu_c, isMu_v, isMu_u, isMu_e, isMu_s, tg_nm, Dl.tg_tup, tgs_nil, tgs_cons, fSl, Rv.d, Rv.m, muD, rvDs, obAt, rvOb, obget_s, obget_e, obput_s, obput_e, put_nil, put_one, conv, argOf, argSlot, argExt, obsMu, seqD, env0, argSl, p_mul, p_mod, p_div, p_pow, p_catT, p_catL, p_maxI, p_minI, List.map_cons, List.map_nil, List.replicate_succ, List.replicate_zero, List.length_cons, List.length_nil, List.nil_append, List.cons_append, List.append_nil, List.getElem?_cons_zero, List.getElem?_cons_succ, List.getElem?_nil, List.set_cons_zero, List.set_cons_succ, List.set_nil, Option.bind_some, Option.bind_none, Option.map_some, Option.map_none, Option.some.injEq, Option.isSome_some, List.all_cons, List.all_nil, List.contains_nil, Bool.and_true, Bool.not_false, Bool.true_and, Rv.val.injEq, PyData.int.injEq, PyData.bool.injEq, PyData.tuple.injEq, PyData.list.injEq, and_assoc, Prod.mk.injEq, reduceCtorEq, Mu.lst.injEq, Int.reducePow, Int.reduceNeg, Int.reduceLT, Int.reduceLE, Int.reduceMul, Int.reduceAdd, Int.reduceSub, Int.reduceToNat, Nat.reduceLT, Nat.reduceLeDiff, Nat.zero_le, or_true, true_or, and_self, not_false_eq_true, forall_const, implies_true, if_true_left, false_or, or_false, p_oD, cut2m, List.all_cons, not_true_eq_false, false_implies, isi_bi, isi_bn, isi_bb, isi_bt, isi_bs, isi_ti, isi_tn, isi_tb, isi_tt, isi_ts, isi_si, isi_sn, isi_sb, isi_st, isi_ss, isi_ii, isi_in, isi_ib, isi_it, isi_is, x_add, x_sub, x_neg, x_lt, x_le, x_gt, x_ge, x_eqI, x_neI, x_is, x_isNot, x_ixL, x_ixT, x_int, x_abs, x_lenL, x_lenT, x_tupL, x_tupT, x_lstL, x_lstT, x_max2, x_min2, at0, at1, at2, at3, atNat, x_inT, x_inL, x_notInT, x_notInL, x_all, x_any, x_sumI, x_nilI, x_nnilI, x_nnilJ, x_eqT, x_neT, x_eqO, x_eqOI, isNone_oD, oD_n, oD_s, decide_eq_true_eq, decide_eq_false_iff_not, true_and, and_true, Nat.sub_self, Nat.reduceSub, Nat.reduceAdd, ite_true, Option.some_inj, eq_self, isNone, Bool.not_true, Int.reduceEq, decide_true, decide_false, exists_eq_left', exists_eq_left, dl_1, dl_2, eq_nn, ne_nn, rgD_hs, Int.toNat_natCast, List.length_map, cut40]
        refine optP_i (a := oD told[i]) (by rw [List.getElem?_map, List.getElem?_eq_getElem hi']; rfl) ?_
        simp only [↓e_C, ↓e_V, ↓e_Fz, ↓e_Op, ↓e_Un, ↓e_B, ↓e_Chain, ↓e_AndT, ↓e_OrT, ↓e_NotT, ↓e_AndV, ↓e_OrV, ↓e_NotV, ↓e_If, ↓e_Nil, ↓e_Cons, ↓e_Tup, ↓e_Lst, ↓e_CB, ↓e_CBN, ↓e_Isi, ↓e_TupRg1, ↓e_LstRg1, ↓e_TupRg2, ↓e_LstRg2, ↓e_ScrLen, ↓e_ScrAt, ↓e_SeqI, ↓e_Enum, ↓e_Rng1, ↓e_Rng2, ↓e_Seq, ↓e_Next, ↓e_Break, ↓e_Cont, ↓e_Drop, ↓e_Ret, ↓e_RetN, ↓e_Ret0, ↓e_IfS, ↓e_Asg, ↓e_AsgN, ↓e_AsgLc, ↓e_mNil, ↓e_mVal, ↓e_mNew, ↓e_Par, ↓e_For, ↓e_LoopN, ↓e_LoopC, ↓e_Lc, ↓e_Yes, ↓e_Call, ↓e_CallN, ↓e_Append, ↓e_Extend, ↓e_Pop, ↓e_PopAt, ↓e_SetAt, ↓e_Sl, ↓e_NoP, ↓e_P, ↓e_Aug, ↓e_SrtSet, optP_some, vaP_val, boP_val, inP_val, muP_lst, vals_nil, vals_cons, brP_t, brP_f, brP_d, brP_n, scrOf, rg1, rg2, lstAt, lsOf, nt_of, nt_0, nt_1, slotR, slNew, slMu, slOf, setAll, Dl.En.set, Dl.En.wipe, wipeL, noMu_n, noMu_c, isMu_v, isMu_u, isMu_e, isMu_s, tg_nm, Dl.tg_tup, tgs_nil, tgs_cons, fSl, Rv.d, Rv.m, muD, rvDs, obAt, rvOb, obget_s, obget_e, obput_s, obput_e, put_nil, put_one, conv, argOf, argSlot, argExt, obsMu, seqD, env0, argSl, p_mul, p_mod, p_div, p_pow, p_catT, p_catL, p_maxI, p_minI, List.map_cons, List.map_nil, List.replicate_succ, List.replicate_zero, List.length_cons, List.length_nil, List.nil_append, List.cons_append, List.append_nil, List.getElem?_cons_zero, List.getElem?_cons_succ, List.getElem?_nil, List.set_cons_zero, List.set_cons_succ, List.set_nil, Option.bind_some, Option.bind_none, Option.map_some, Option.map_none, Option.some.injEq, Option.isSome_some, List.all_cons, List.all_nil, List.contains_nil, Bool.and_true, Bool.not_false, Bool.true_and, Rv.val.injEq, PyData.int.injEq, PyData.bool.injEq, PyData.tuple.injEq, PyData.list.injEq, and_assoc, Prod.mk.injEq, reduceCtorEq, Mu.lst.injEq, Int.reducePow, Int.reduceNeg, Int.reduceLT, Int.reduceLE, Int.reduceMul, Int.reduceAdd, Int.reduceSub, Int.reduceToNat, Nat.reduceLT, Nat.reduceLeDiff, Nat.zero_le, or_true, true_or, and_self, not_false_eq_true, forall_const, implies_true, if_true_left, false_or, or_false, p_oD, cut2m, List.all_cons, not_true_eq_false, false_implies, isi_bi, isi_bn, isi_bb, isi_bt, isi_bs, isi_ti, isi_tn, isi_tb, isi_tt, isi_ts, isi_si, isi_sn, isi_sb, isi_st, isi_ss, isi_ii, isi_in, isi_ib, isi_it, isi_is, x_add, x_sub, x_neg, x_lt, x_le, x_gt, x_ge, x_eqI, x_neI, x_is, x_isNot, x_ixL, x_ixT, x_int, x_abs, x_lenL, x_lenT, x_tupL, x_tupT, x_lstL, x_lstT, x_max2, x_min2, at0, at1, at2, at3, atNat, x_inT, x_inL, x_notInT, x_notInL, x_all, x_any, x_sumI, x_nilI, x_nnilI, x_nnilJ, x_eqT, x_neT, x_eqO, x_eqOI, isNone_oD, oD_n, oD_s, decide_eq_true_eq, decide_eq_false_iff_not, true_and, and_true, Nat.sub_self, Nat.reduceSub, Nat.reduceAdd, ite_true, Option.some_inj, eq_self, isNone, Bool.not_true, Int.reduceEq, decide_true, decide_false, exists_eq_left', exists_eq_left, dl_1, dl_2, eq_nn, ne_nn, rgD_hs, Int.toNat_natCast, List.length_map, cut40]
        rw [List.getElem?_eq_getElem hi'] at h
        simp only [Option.some.injEq] at h
        exact h
      · simp only [↓e_C, ↓e_V, ↓e_Fz, ↓e_Op, ↓e_Un, ↓e_B, ↓e_Chain, ↓e_AndT, ↓e_OrT, ↓e_NotT, ↓e_AndV, ↓e_OrV, ↓e_NotV, ↓e_If, ↓e_Nil, ↓e_Cons, ↓e_Tup, ↓e_Lst, ↓e_CB, ↓e_CBN, ↓e_Isi, ↓e_TupRg1, ↓e_LstRg1, ↓e_TupRg2, ↓e_LstRg2, ↓e_ScrLen, ↓e_ScrAt, ↓e_SeqI, ↓e_Enum, ↓e_Rng1, ↓e_Rng2, ↓e_Seq, ↓e_Next, ↓e_Break, ↓e_Cont, ↓e_Drop, ↓e_Ret, ↓e_RetN, ↓e_Ret0, ↓e_IfS, ↓e_Asg, ↓e_AsgN, ↓e_AsgLc, ↓e_mNil, ↓e_mVal, ↓e_mNew, ↓e_Par, ↓e_For, ↓e_LoopN, ↓e_LoopC, ↓e_Lc, ↓e_Yes, ↓e_Call, ↓e_CallN, ↓e_Append, ↓e_Extend, ↓e_Pop, ↓e_PopAt, ↓e_SetAt, ↓e_Sl, ↓e_NoP, ↓e_P, ↓e_Aug, ↓e_SrtSet, optP_some, vaP_val, boP_val, inP_val, muP_lst, vals_nil, vals_cons, brP_t, brP_f, brP_d, brP_n, scrOf, rg1, rg2, lstAt, lsOf, nt_of, nt_0, nt_1, slotR, slNew, slMu, slOf, setAll, Dl.En.set, Dl.En.wipe, wipeL, noMu_n, noMu_c, isMu_v, isMu_u, isMu_e, isMu_s, tg_nm, Dl.tg_tup, tgs_nil, tgs_cons, fSl, Rv.d, Rv.m, muD, rvDs, obAt, rvOb, obget_s, obget_e, obput_s, obput_e, put_nil, put_one, conv, argOf, argSlot, argExt, obsMu, seqD, env0, argSl, p_mul, p_mod, p_div, p_pow, p_catT, p_catL, p_maxI, p_minI, List.map_cons, List.map_nil, List.replicate_succ, List.replicate_zero, List.length_cons, List.length_nil, List.nil_append, List.cons_append, List.append_nil, List.getElem?_cons_zero, List.getElem?_cons_succ, List.getElem?_nil, List.set_cons_zero, List.set_cons_succ, List.set_nil, Option.bind_some, Option.bind_none, Option.map_some, Option.map_none, Option.some.injEq, Option.isSome_some, List.all_cons, List.all_nil, List.contains_nil, Bool.and_true, Bool.not_false, Bool.true_and, Rv.val.injEq, PyData.int.injEq, PyData.bool.injEq, PyData.tuple.injEq, PyData.list.injEq, and_assoc, Prod.mk.injEq, reduceCtorEq, Mu.lst.injEq, Int.reducePow, Int.reduceNeg, Int.reduceLT, Int.reduceLE, Int.reduceMul, Int.reduceAdd, Int.reduceSub, Int.reduceToNat, Nat.reduceLT, Nat.reduceLeDiff, Nat.zero_le, or_true, true_or, and_self, not_false_eq_true, forall_const, implies_true, if_true_left, false_or, or_false, p_oD, cut2m, List.all_cons, not_true_eq_false, false_implies, isi_bi, isi_bn, isi_bb, isi_bt, isi_bs, isi_ti, isi_tn, isi_tb, isi_tt, isi_ts, isi_si, isi_sn, isi_sb, isi_st, isi_ss, isi_ii, isi_in, isi_ib, isi_it, isi_is, x_add, x_sub, x_neg, x_lt, x_le, x_gt, x_ge, x_eqI, x_neI, x_is, x_isNot, x_ixL, x_ixT, x_int, x_abs, x_lenL, x_lenT, x_tupL, x_tupT, x_lstL, x_lstT, x_max2, x_min2, at0, at1, at2, at3, atNat, x_inT, x_inL, x_notInT, x_notInL, x_all, x_any, x_sumI, x_nilI, x_nnilI, x_nnilJ, x_eqT, x_neT, x_eqO, x_eqOI, isNone_oD, oD_n, oD_s, decide_eq_true_eq, decide_eq_false_iff_not, true_and, and_true, Nat.sub_self, Nat.reduceSub, Nat.reduceAdd, ite_true, Option.some_inj, eq_self, isNone, Bool.not_true, Int.reduceEq, decide_true, decide_false, exists_eq_left', exists_eq_left, dl_1, dl_2, eq_nn, ne_nn, rgD_hs, Int.toNat_natCast, List.length_map, cut40]
        exact h
      · have := tellers_len told n
        have e : ((List.range told.length).filter fun i => decide (told[i]? = some (some n))).map (fun i => PyData.int (i : Nat)) = (tellers told n).map PyData.int := by
          unfold tellers; rw [List.map_map]; rfl
        rw [e]
        refine ⟨_, _, rfl, hf, by omega, ?_⟩
        simp only [↓e_C, ↓e_V, ↓e_Fz, ↓e_Op, ↓e_Un, ↓e_B, ↓e_Chain, ↓e_AndT, ↓e_OrT, ↓e_NotT, ↓e_AndV, ↓e_OrV, ↓e_NotV, ↓e_If, ↓e_Nil, ↓e_Cons, ↓e_Tup, ↓e_Lst, ↓e_CB, ↓e_CBN, ↓e_Isi, ↓e_TupRg1, ↓e_LstRg1, ↓e_TupRg2, ↓e_LstRg2, ↓e_ScrLen, ↓e_ScrAt, ↓e_SeqI, ↓e_Enum, ↓e_Rng1, ↓e_Rng2, ↓e_Seq, ↓e_Next, ↓e_Break, ↓e_Cont, ↓e_Drop, ↓e_Ret, ↓e_RetN, ↓e_Ret0, ↓e_IfS, ↓e_Asg, ↓e_AsgN, ↓e_AsgLc, ↓e_mNil, ↓e_mVal, ↓e_mNew, ↓e_Par, ↓e_For, ↓e_LoopN, ↓e_LoopC, ↓e_Lc, ↓e_Yes, ↓e_Call, ↓e_CallN, ↓e_Append, ↓e_Extend, ↓e_Pop, ↓e_PopAt, ↓e_SetAt, ↓e_Sl, ↓e_NoP, ↓e_P, ↓e_Aug, ↓e_SrtSet, optP_some, vaP_val, boP_val, inP_val, muP_lst, vals_nil, vals_cons, brP_t, brP_f, brP_d, brP_n, scrOf, rg1, rg2, lstAt, lsOf, nt_of, nt_0, nt_1, slotR, slNew, slMu, slOf, setAll, Dl.En.set, Dl.En.wipe, wipeL, noMu_n, noMu_c, isMu_v, isMu_u, isMu_e, isMu_s, tg_nm, Dl.tg_tup, tgs_nil, tgs_cons, fSl, Rv.d, Rv.m, muD, rvDs, obAt, rvOb, obget_s, obget_e, obput_s, obput_e, put_nil, put_one, conv, argOf, argSlot, argExt, obsMu, seqD, env0, argSl, p_mul, p_mod, p_div, p_pow, p_catT, p_catL, p_maxI, p_minI, List.map_cons, List.map_nil, List.replicate_succ, List.replicate_zero, List.length_cons, List.length_nil, List.nil_append, List.cons_append, List.append_nil, List.getElem?_cons_zero, List.getElem?_cons_succ, List.getElem?_nil, List.set_cons_zero, List.set_cons_succ, List.set_nil, Option.bind_some, Option.bind_none, Option.map_some, Option.map_none, Option.some.injEq, Option.isSome_some, List.all_cons, List.all_nil, List.contains_nil, Bool.and_true, Bool.not_false, Bool.true_and, Rv.val.injEq, PyData.int.injEq, PyData.bool.injEq, PyData.tuple.injEq, PyData.list.injEq, and_assoc, Prod.mk.injEq, reduceCtorEq, Mu.lst.injEq, Int.reducePow, Int.reduceNeg, Int.reduceLT, Int.reduceLE, Int.reduceMul, Int.reduceAdd, Int.reduceSub, Int.reduceToNat, Nat.reduceLT, Nat.reduceLeDiff, Nat.zero_le, or_true, true_or, and_self, not_false_eq_true, forall_const, implies_true, if_true_left, false_or, or_false, p_oD, cut2m, List.all_cons, not_true_eq_false, false_implies, isi_bi, isi_bn, isi_bb, isi_bt, isi_bs, isi_ti, isi_tn, isi_tb, isi_tt, isi_ts, isi_si, isi_sn, isi_sb, isi_st, isi_ss, isi_ii, isi_in, isi_ib, isi_it, isi_is, x_add, x_sub, x_neg, x_lt, x_le, x_gt, x_ge, x_eqI, x_neI, x_is, x_isNot, x_ixL, x_ixT, x_int, x_abs, x_lenL, x_lenT, x_tupL, x_tupT, x_lstL, x_lstT, x_max2, x_min2, at0, at1, at2, at3, atNat, x_inT, x_inL, x_notInT, x_notInL, x_all, x_any, x_sumI, x_nilI, x_nnilI, x_nnilJ, x_eqT, x_neT, x_eqO, x_eqOI, isNone_oD, oD_n, oD_s, decide_eq_true_eq, decide_eq_false_iff_not, true_and, and_true, Nat.sub_self, Nat.reduceSub, Nat.reduceAdd, ite_true, Option.some_inj, eq_self, isNone, Bool.not_true, Int.reduceEq, decide_true, decide_false, exists_eq_left', exists_eq_left, dl_1, dl_2, eq_nn, ne_nn, rgD_hs, Int.toNat_natCast, List.length_map, cut40]
        exact h
  · simp only [↓e_C, ↓e_V, ↓e_Fz, ↓e_Op, ↓e_Un, ↓e_B, ↓e_Chain, ↓e_AndT, ↓e_OrT, ↓e_NotT, ↓e_AndV, ↓e_OrV, ↓e_NotV, ↓e_If, ↓e_Nil, ↓e_Cons, ↓e_Tup, ↓e_Lst, ↓e_CB, ↓e_CBN, ↓e_Isi, ↓e_TupRg1, ↓e_LstRg1, ↓e_TupRg2, ↓e_LstRg2, ↓e_ScrLen, ↓e_ScrAt, ↓e_SeqI, ↓e_Enum, ↓e_Rng1, ↓e_Rng2, ↓e_Seq, ↓e_Next, ↓e_Break, ↓e_Cont, ↓e_Drop, ↓e_Ret, ↓e_RetN, ↓e_Ret0, ↓e_IfS, ↓e_Asg, ↓e_AsgN, ↓e_AsgLc, ↓e_mNil, ↓e_mVal, ↓e_mNew, ↓e_Par, ↓e_For, ↓e_LoopN, ↓e_LoopC, ↓e_Lc, ↓e_Yes, ↓e_Call, ↓e_CallN, ↓e_Append, ↓e_Extend, ↓e_Pop, ↓e_PopAt, ↓e_SetAt, ↓e_Sl, ↓e_NoP, ↓e_P, ↓e_Aug, ↓e_SrtSet, optP_some, vaP_val, boP_val, inP_val, muP_lst, vals_nil, vals_cons, brP_t, brP_f, brP_d, brP_n, scrOf, rg1, rg2, lstAt, lsOf, nt_of, nt_0, nt_1, slotR, slNew, slMu, slOf, setAll, Dl.En.set, Dl.En.wipe, wipeL, noMu_n, noMu_c, isMu_v, isMu_u, isMu_e, isMu_s, tg_nm, Dl.tg_tup, tgs_nil, tgs_cons, fSl, Rv.d, Rv.m, muD, rvDs, obAt, rvOb, obget_s, obget_e, obput_s, obput_e, put_nil, put_one, conv, argOf, argSlot, argExt, obsMu, seqD, env0, argSl, p_mul, p_mod, p_div, p_pow, p_catT, p_catL, p_maxI, p_minI, List.map_cons, List.map_nil, List.replicate_succ, List.replicate_zero, List.length_cons, List.length_nil, List.nil_append, List.cons_append, List.append_nil, List.getElem?_cons_zero, List.getElem?_cons_succ, List.getElem?_nil, List.set_cons_zero, List.set_cons_succ, List.set_nil, Option.bind_some, Option.bind_none, Option.map_some, Option.map_none, Option.some.injEq, Option.isSome_some, List.all_cons, List.all_nil, List.contains_nil, Bool.and_true, Bool.not_false, Bool.true_and, Rv.val.injEq, PyData.int.injEq, PyData.bool.injEq, PyData.tuple.injEq, PyData.list.injEq, and_assoc, Prod.mk.injEq, reduceCtorEq, Mu.lst.injEq, Int.reducePow, Int.reduceNeg, Int.reduceLT, Int.reduceLE, Int.reduceMul, Int.reduceAdd, Int.reduceSub, Int.reduceToNat, Nat.reduceLT, Nat.reduceLeDiff, Nat.zero_le, or_true, true_or, and_self, not_false_eq_true, forall_const, implies_true, if_true_left, false_or, or_false, p_oD, cut2m, List.all_cons, not_true_eq_false, false_implies, isi_bi, isi_bn, isi_bb, isi_bt, isi_bs, isi_ti, isi_tn, isi_tb, isi_tt, isi_ts, isi_si, isi_sn, isi_sb, isi_st, isi_ss, isi_ii, isi_in, isi_ib, isi_it, isi_is, x_add, x_sub, x_neg, x_lt, x_le, x_gt, x_ge, x_eqI, x_neI, x_is, x_isNot, x_ixL, x_ixT, x_int, x_abs, x_lenL, x_lenT, x_tupL, x_tupT, x_lstL, x_lstT, x_max2, x_min2, at0, at1, at2, at3, atNat, x_inT, x_inL, x_notInT, x_notInL, x_all, x_any, x_sumI, x_nilI, x_nnilI, x_nnilJ, x_eqT, x_neT, x_eqO, x_eqOI, isNone_oD, oD_n, oD_s, decide_eq_true_eq, decide_eq_false_iff_not, true_and, and_true, Nat.sub_self, Nat.reduceSub, Nat.reduceAdd, ite_true, Option.some_inj, eq_self, isNone, Bool.not_true, Int.reduceEq, decide_true, decide_false, exists_eq_left', exists_eq_left, dl_1, dl_2, eq_nn, ne_nn, rgD_hs, Int.toNat_natCast, List.length_map, cut40]
    exact h
  · rw [somes _ rfl]
    simp only [↓e_C, ↓e_V, ↓e_Fz, ↓e_Op, ↓e_Un, ↓e_B, ↓e_Chain, ↓e_AndT, ↓e_OrT, ↓e_NotT, ↓e_AndV, ↓e_OrV, ↓e_NotV, ↓e_If, ↓e_Nil, ↓e_Cons, ↓e_Tup, ↓e_Lst, ↓e_CB, ↓e_CBN, ↓e_Isi, ↓e_TupRg1, ↓e_LstRg1, ↓e_TupRg2, ↓e_LstRg2, ↓e_ScrLen, ↓e_ScrAt, ↓e_SeqI, ↓e_Enum, ↓e_Rng1, ↓e_Rng2, ↓e_Seq, ↓e_Next, ↓e_Break, ↓e_Cont, ↓e_Drop, ↓e_Ret, ↓e_RetN, ↓e_Ret0, ↓e_IfS, ↓e_Asg, ↓e_AsgN, ↓e_AsgLc, ↓e_mNil, ↓e_mVal, ↓e_mNew, ↓e_Par, ↓e_For, ↓e_LoopN, ↓e_LoopC, ↓e_Lc, ↓e_Yes, ↓e_Call, ↓e_CallN, ↓e_Append, ↓e_Extend, ↓e_Pop, ↓e_PopAt, ↓e_SetAt, ↓e_Sl, ↓e_NoP, ↓e_P, ↓e_Aug, ↓e_SrtSet, optP_some, vaP_val, boP_val, inP_val, muP_lst, vals_nil, vals_cons, brP_t, brP_f, brP_d, brP_n, scrOf, rg1, rg2, lstAt, lsOf, nt_of, nt_0, nt_1, slotR, slNew, slMu, slOf, setAll, Dl.En.set, Dl.En.wipe, wipeL, noMu_n, noMu_c, isMu_v, isMu_u, isMu_e, isMu_s, tg_nm, Dl.tg_tup, tgs_nil, tgs_cons, fSl, Rv.d, Rv.m, muD, rvDs, obAt, rvOb, obget_s, obget_e, obput_s, obput_e, put_nil, put_one, conv, argOf, argSlot, argExt, obsMu, seqD, env0, argSl, p_mul, p_mod, p_div, p_pow, p_catT, p_catL, p_maxI, p_minI, List.map_cons, List.map_nil, List.replicate_succ, List.replicate_zero, List.length_cons, List.length_nil, List.nil_append, List.cons_append, List.append_nil, List.getElem?_cons_zero, List.getElem?_cons_succ, List.getElem?_nil, List.set_cons_zero, List.set_cons_succ, List.set_nil, Option.bind_some, Option.bind_none, Option.map_some, Option.map_none, Option.some.injEq, Option.isSome_some, List.all_cons, List.all_nil, List.contains_nil, Bool.and_true, Bool.not_false, Bool.true_and, Rv.val.injEq, PyData.int.injEq, PyData.bool.injEq, PyData.tuple.injEq, PyData.list.injEq, and_assoc, Prod.mk.injEq, reduceCtorEq, Mu.lst.injEq, Int.reducePow, Int.reduceNeg, Int.reduceLT, Int.reduceLE, Int.reduceMul, Int.reduceAdd, Int.reduceSub, Int.reduceToNat, Nat.reduceLT, Nat.reduceLeDiff, Nat.zero_le, or_true, true_or, and_self, not_false_eq_true, forall_const, implies_true, if_true_left, false_or, or_false, p_oD, cut2m, List.all_cons, not_true_eq_false, false_implies, isi_bi, isi_bn, isi_bb, isi_bt, isi_bs, isi_ti, isi_tn, isi_tb, isi_tt, isi_ts, isi_si, isi_sn, isi_sb, isi_st, isi_ss, isi_ii, isi_in, isi_ib, isi_it, isi_is, x_add, x_sub, x_neg, x_lt, x_le, x_gt, x_ge, x_eqI, x_neI, x_is, x_isNot, x_ixL, x_ixT, x_int, x_abs, x_lenL, x_lenT, x_tupL, x_tupT, x_lstL, x_lstT, x_max2, x_min2, at0, at1, at2, at3, atNat, x_inT, x_inL, x_notInT, x_notInL, x_all, x_any, x_sumI, x_nilI, x_nnilI, x_nnilJ, x_eqT, x_neT, x_eqO, x_eqOI, isNone_oD, oD_n, oD_s, decide_eq_true_eq, decide_eq_false_iff_not, true_and, and_true, Nat.sub_self, Nat.reduceSub, Nat.reduceAdd, ite_true, Option.some_inj, eq_self, isNone, Bool.not_true, Int.reduceEq, decide_true, decide_false, exists_eq_left', exists_eq_left, dl_1, dl_2, eq_nn, ne_nn, rgD_hs, Int.toNat_natCast, List.length_map, cut40]
    unfold newest sureL at q
    refine ⟨fun h => ?_, fun h => ?_⟩
    · rw [List.isEmpty_iff.mp h] at q
      exact q
    · have h0 : 0 < ((told.filter (sureB f told)).filterMap id).length := by
        refine List.length_pos_iff.mpr fun z => ?_
        rw [z] at h; cases h
      rw [if_pos h0] at q
      exact ⟨h0, q⟩
/-! ### the box -/
def T__law_box : DSp where
  run := fun args xt Q => ∃ (ns : List Int) (k : Int), args = [.scr ns, .val (.int k)] ∧ 0 ≤ k ∧ ∀ g r : Int, Q (.new (.lst [.int g, .int r])) xt
  mono := fun k ⟨ns, i, e, h, q⟩ => ⟨ns, i, e, h, fun g r => k _ _ (q g r)⟩
def r__law_box : RS := dSeq (dAsg (dOp fAdd (dOp fMul (dC (.int 5881)) (dV 1)) (dC (.int 7559))) (.nm 2)) (dSeq (dIfS (dB (dOp fLt (dV 1) (dScrLen 0))) (dAsg (dCB fAbs (dCons (dCB fInt (dCons (dScrAt 0 (dV 1)) dNil)) dNil)) (.nm 2)) (dIfS (dB (dOp fGt (dScrLen 0) (dC (.int 0)))) (dAsg (dOp fAdd (dV 2) (dOp fMul (dOp fMod (dCB fInt (dCons (dCB fAbs (dCons (dCB fInt (dCons (dScrAt 0 (dOp fMod (dCB fInt (dCons (dV 1) dNil)) (dScrLen 0))) dNil)) dNil)) dNil)) (dC (.int 2147483563))) (dC (.int 57077)))) (.nm 2)) dNext)) (dSeq (dAsg (dIf (dB (dOp fGe (dV 2) (dOp fPow (dC (.int 10)) (dC (.int 18))))) (dV 2) (dC (.int 0))) (.nm 3)) (dRetN (dLst (dCons (dV 3) (dCons (dOp fAdd (dOp fMod (dCB fInt (dCons (dOp fAdd (dOp fMul (dOp fMod (dCB fInt (dCons (dV 2) dNil)) (dC (.int 2147483563))) (dC (.int 40014))) (dOp fMul (dC (.int 7559)) (dV 1))) dNil)) (dC (.int 2147483563))) (dC (.int 1))) dNil))))))
theorem pure__law_box : PureOk T__law_box 2 4 r__law_box := by
  rintro _ xt Q _ ⟨ns, k, rfl, hk, q⟩
  obtain ⟨k, rfl⟩ := Int.eq_ofNat_of_zero_le hk
  unfold r__law_box
  simp only [↓e_C, ↓e_V, ↓e_Fz, ↓e_Op, ↓e_Un, ↓e_B, ↓e_Chain, ↓e_AndT, ↓e_OrT, ↓e_NotT, ↓e_AndV, ↓e_OrV, ↓e_NotV, ↓e_If, ↓e_Nil, ↓e_Cons, ↓e_Tup, ↓e_Lst, ↓e_CB, ↓e_CBN, ↓e_Isi, ↓e_TupRg1, ↓e_LstRg1, ↓e_TupRg2, ↓e_LstRg2, ↓e_ScrLen, ↓e_ScrAt, ↓e_SeqI, ↓e_Enum, ↓e_Rng1, ↓e_Rng2, ↓e_Seq, ↓e_Next, ↓e_Break, ↓e_Cont, ↓e_Drop, ↓e_Ret, ↓e_RetN, ↓e_Ret0, ↓e_IfS, ↓e_Asg, ↓e_AsgN, ↓e_AsgLc, ↓e_mNil, ↓e_mVal, ↓e_mNew, ↓e_Par, ↓e_For, ↓e_LoopN, ↓e_LoopC, ↓e_Lc, ↓e_Yes, ↓e_Call, ↓e_CallN, ↓e_Append, ↓e_Extend, ↓e_Pop, ↓e_PopAt, ↓e_SetAt, ↓e_Sl, ↓e_NoP, ↓e_P, ↓e_Aug, ↓e_SrtSet, optP_some, vaP_val, boP_val, inP_val, muP_lst, vals_nil, vals_cons, brP_t, brP_f, brP_d, brP_n, scrOf, rg1, rg2, lstAt, lsOf, nt_of, nt_0, nt_1, slotR, slNew, slMu, slOf, setAll, Dl.En.set, Dl.En.wipe, wipeL, noMu_n, noMu_c, isMu_v, isMu_u, isMu_e, isMu_s, tg_nm, Dl.tg_tup, tgs_nil, tgs_cons, fSl, Rv.d, Rv.m, muD, rvDs, obAt, rvOb, obget_s, obget_e, obput_s, obput_e, put_nil, put_one, conv, argOf, argSlot, argExt, obsMu, seqD, env0, argSl, p_mul, p_mod, p_div, p_pow, p_catT, p_catL, p_maxI, p_minI, List.map_cons, List.map_nil, List.replicate_succ, List.replicate_zero, List.length_cons, List.length_nil, List.nil_append, List.cons_append, List.append_nil, List.getElem?_cons_zero, List.getElem?_cons_succ, List.getElem?_nil, List.set_cons_zero, List.set_cons_succ, List.set_nil, Option.bind_some, Option.bind_none, Option.map_some, Option.map_none, Option.some.injEq, Option.isSome_some, List.all_cons, List.all_nil, List.contains_nil, Bool.and_true, Bool.not_false, Bool.true_and, Rv.val.injEq, PyData.int.injEq, PyData.bool.injEq, PyData.tuple.injEq, PyData.list.injEq, and_assoc, Prod.mk.injEq, reduceCtorEq, Mu.lst.injEq, Int.reducePow, Int.reduceNeg, Int.reduceLT, Int.reduceLE, Int.reduceMul, Int.reduceAdd, Int.reduceSub, Int.reduceToNat, Nat.reduceLT, Nat.reduceLeDiff, Nat.zero_le, or_true, true_or, and_self, not_false_eq_true, forall_const, implies_true, if_true_left, false_or, or_false, p_oD, cut2m, List.all_cons, not_true_eq_false, false_implies, isi_bi, isi_bn, isi_bb, isi_bt, isi_bs, isi_ti, isi_tn, isi_tb, isi_tt, isi_ts, isi_si, isi_sn, isi_sb, isi_st, isi_ss, isi_ii, isi_in, isi_ib, isi_it, isi_is, x_add, x_sub, x_neg, x_lt, x_le, x_gt, x_ge, x_eqI, x_neI, x_is, x_isNot, x_ixL, x_ixT, x_int, x_abs, x_lenL, x_lenT, x_tupL, x_tupT, x_lstL, x_lstT, x_max2, x_min2, at0, at1, at2, at3, atNat, x_inT, x_inL, x_notInT, x_notInL, x_all, x_any, x_sumI, x_nilI, x_nnilI, x_nnilJ, x_eqT, x_neT, x_eqO, x_eqOI, isNone_oD, oD_n, oD_s, decide_eq_true_eq, decide_eq_false_iff_not, true_and, and_true, Nat.sub_self, Nat.reduceSub, Nat.reduceAdd, ite_true, Option.some_inj, eq_self, isNone, Bool.not_true, Int.reduceEq, decide_true, decide_false, exists_eq_left', exists_eq_left, dl_1, dl_2, eq_nn, ne_nn, rgD_hs, Int.toNat_natCast, List.length_map, cut40]
  have d : Int.natAbs 10 < 2 ^ 64 := by decide
  refine ⟨fun h => ?_, fun h => ⟨fun h0 => ⟨h0, ?_⟩, fun _ => ⟨d, fun _ => q _ _, fun _ => q _ _⟩⟩⟩
  · have hk : k < ns.length := by omega
    exact optP_i (List.getElem?_eq_getElem hk) ⟨d, fun _ => q _ _, fun _ => q _ _⟩
  · have hm : k % ns.length < ns.length := Nat.mod_lt _ (by omega)
    have e : ((k : Int) % (ns.length : Int)) = ((k % ns.length : Nat) : Int) := by omega
    exact optP_i (by rw [e, atNat, List.getElem?_eq_getElem hm]) ⟨d, fun _ => q _ _, fun _ => q _ _⟩
/-! ### alike: numbers and None -/
def T__law_like : DSp where
  run := fun args xt Q => ∃ a b : Option Int, args = [.val (oD a), .val (oD b)] ∧ Q (.val (.bool (decide (a = b)))) xt
  mono := fun k ⟨a, b, e, q⟩ => ⟨a, b, e, k _ _ q⟩
def r__law_like : RS := dSeq (dAsgN 2 (dLst (dCons (dTup (dCons (dV 0) (dCons (dV 1) dNil))) dNil))) (dSeq (dFor (dRng1 (dCons (dC (.int 1000000)) dNil)) (.nm 3) (dSeq (dIfS (dB (dOp fEq (dV 2) (dFz (dLst dNil)))) (dRet (dC (.bool true))) dNext) (dSeq (dAsg (dPop 2) (.tup [.nm 4, .nm 5])) (dIfS (dB (dOp fIs0 (dV 5) (dC .none))) (dIfS (dB (dOp fIsNot (dV 4) (dC .none))) (dRet (dC (.bool false))) dNext) (dIfS (dB (dIsi "bool" (dV 5))) (dIfS (dOrT (dNotT (dB (dIsi "bool" (dV 4)))) (dB (dOp fNe (dV 4) (dV 5)))) (dRet (dC (.bool false))) dNext) (dIfS (dB (dIsi "tuple" (dV 5))) (dSeq (dIfS (dOrT (dNotT (dB (dIsi "tuple" (dV 4)))) (dB (dOp fNe (dCB fLen (dCons (dV 4) dNil)) (dCB fLen (dCons (dV 5) dNil))))) (dRet (dC (.bool false))) dNext) dNoS) (dIfS (dB (dIsi "str" (dV 5))) (dIfS (dOrT (dNotT (dB (dIsi "str" (dV 4)))) (dB (dOp fNe (dV 4) (dV 5)))) (dRet (dC (.bool false))) dNext) (dIfS (dOrT (dNotT (dB (dIsi "int" (dV 4)))) (dOrT (dB (dIsi "bool" (dV 4))) (dB (dOp fNe (dV 4) (dV 5))))) (dRet (dC (.bool false))) dNext)))))))) (dRet (dC (.bool false))))
theorem hs_two (n : Nat) : ∃ r, hsI (n + 2) = 0 :: 1 :: r := by
  unfold hsI
  rw [List.range_succ_eq_map, List.map_cons, List.range_succ_eq_map, List.map_cons, List.map_cons]
  exact ⟨_, rfl⟩
theorem shaped2 (a b : Option Int) : fEq (.list [.tuple [oD a, oD b]]) (.list []) = some (.bool false) := by
  cases a <;> cases b <;> rfl
theorem pure__law_like : PureOk T__law_like 2 6 r__law_like := by
  rintro _ xt Q _ ⟨a, b, rfl, q⟩
  obtain ⟨r, hr⟩ := hs_two 999998
  unfold r__law_like
  simp only [↓e_C, ↓e_V, ↓e_Fz, ↓e_Op, ↓e_Un, ↓e_B, ↓e_Chain, ↓e_AndT, ↓e_OrT, ↓e_NotT, ↓e_AndV, ↓e_OrV, ↓e_NotV, ↓e_If, ↓e_Nil, ↓e_Cons, ↓e_Tup, ↓e_Lst, ↓e_CB, ↓e_CBN, ↓e_Isi, ↓e_TupRg1, ↓e_LstRg1, ↓e_TupRg2, ↓e_LstRg2, ↓e_ScrLen, ↓e_ScrAt, ↓e_SeqI, ↓e_Enum, ↓e_Rng1, ↓e_Rng2, ↓e_Seq, ↓e_Next, ↓e_Break, ↓e_Cont, ↓e_Drop, ↓e_Ret, ↓e_RetN, ↓e_Ret0, ↓e_IfS, ↓e_Asg, ↓e_AsgN, ↓e_AsgLc, ↓e_mNil, ↓e_mVal, ↓e_mNew, ↓e_Par, ↓e_For, ↓e_LoopN, ↓e_LoopC, ↓e_Lc, ↓e_Yes, ↓e_Call, ↓e_CallN, ↓e_Append, ↓e_Extend, ↓e_Pop, ↓e_PopAt, ↓e_SetAt, ↓e_Sl, ↓e_NoP, ↓e_P, ↓e_Aug, ↓e_SrtSet, optP_some, vaP_val, boP_val, inP_val, muP_lst, vals_nil, vals_cons, brP_t, brP_f, brP_d, brP_n, scrOf, rg1, rg2, lstAt, lsOf, nt_of, nt_0, nt_1, slotR, slNew, slMu, slOf, setAll, Dl.En.set, Dl.En.wipe, wipeL, noMu_n, noMu_c, isMu_v, isMu_u, isMu_e, isMu_s, tg_nm, Dl.tg_tup, tgs_nil, tgs_cons, fSl, Rv.d, Rv.m, muD, rvDs, obAt, rvOb, obget_s, obget_e, obput_s, obput_e, put_nil, put_one, conv, argOf, argSlot, argExt, obsMu, seqD, env0, argSl, p_mul, p_mod, p_div, p_pow, p_catT, p_catL, p_maxI, p_minI, List.map_cons, List.map_nil, List.replicate_succ, List.replicate_zero, List.length_cons, List.length_nil, List.nil_append, List.cons_append, List.append_nil, List.getElem?_cons_zero, List.getElem?_cons_succ, List.getElem?_nil, List.set_cons_zero, List.set_cons_succ, List.set_nil, Option.bind_some, Option.bind_none, Option.map_some, Option.map_none, Option.some.injEq, Option.isSome_some, List.all_cons, List.all_nil, List.contains_nil, Bool.and_true, Bool.not_false, Bool.true_and, Rv.val.injEq, PyData.int.injEq, PyData.bool.injEq, PyData.tuple.injEq, PyData.list.injEq, and_assoc, Prod.mk.injEq, reduceCtorEq, Mu.lst.injEq, Int.reducePow, Int.reduceNeg, Int.reduceLT, Int.reduceLE, Int.reduceMul, Int.reduceAdd, Int.reduceSub, Int.reduceToNat, Nat.reduceLT, Nat.reduceLeDiff, Nat.zero_le, or_true, true_or, and_self, not_false_eq_true, forall_const, implies_true, if_true_left, false_or, or_false, p_oD, cut2m, List.all_cons, not_true_eq_false, false_implies, isi_bi, isi_bn, isi_bb, isi_bt, isi_bs, isi_ti, isi_tn, isi_tb, isi_tt, isi_ts, isi_si, isi_sn, isi_sb, isi_st, isi_ss, isi_ii, isi_in, isi_ib, isi_it, isi_is, x_add, x_sub, x_neg, x_lt, x_le, x_gt, x_ge, x_eqI, x_neI, x_is, x_isNot, x_ixL, x_ixT, x_int, x_abs, x_lenL, x_lenT, x_tupL, x_tupT, x_lstL, x_lstT, x_max2, x_min2, at0, at1, at2, at3, atNat, x_inT, x_inL, x_notInT, x_notInL, x_all, x_any, x_sumI, x_nilI, x_nnilI, x_nnilJ, x_eqT, x_neT, x_eqO, x_eqOI, isNone_oD, oD_n, oD_s, decide_eq_true_eq, decide_eq_false_iff_not, true_and, and_true, Nat.sub_self, Nat.reduceSub, Nat.reduceAdd, ite_true, Option.some_inj, eq_self, isNone, Bool.not_true, Int.reduceEq, decide_true, decide_false, exists_eq_left', exists_eq_left, dl_1, dl_2, eq_nn, ne_nn, rgD_hs, Int.toNat_natCast, List.length_map, cut40]
  rw [hr]
  simp only [↓e_C, ↓e_V, ↓e_Fz, ↓e_Op, ↓e_Un, ↓e_B, ↓e_Chain, ↓e_AndT, ↓e_OrT, ↓e_NotT, ↓e_AndV, ↓e_OrV, ↓e_NotV, ↓e_If, ↓e_Nil, ↓e_Cons, ↓e_Tup, ↓e_Lst, ↓e_CB, ↓e_CBN, ↓e_Isi, ↓e_TupRg1, ↓e_LstRg1, ↓e_TupRg2, ↓e_LstRg2, ↓e_ScrLen, ↓e_ScrAt, ↓e_SeqI, ↓e_Enum, ↓e_Rng1, ↓e_Rng2, ↓e_Seq, ↓e_Next, ↓e_Break, ↓e_Cont, ↓e_Drop, ↓e_Ret, ↓e_RetN, ↓e_Ret0, ↓e_IfS, ↓e_Asg, ↓e_AsgN, ↓e_AsgLc, ↓e_mNil, ↓e_mVal, ↓e_mNew, ↓e_Par, ↓e_For, ↓e_LoopN, ↓e_LoopC, ↓e_Lc, ↓e_Yes, ↓e_Call, ↓e_CallN, ↓e_Append, ↓e_Extend, ↓e_Pop, ↓e_PopAt, ↓e_SetAt, ↓e_Sl, ↓e_NoP, ↓e_P, ↓e_Aug, ↓e_SrtSet, optP_some, vaP_val, boP_val, inP_val, muP_lst, vals_nil, vals_cons, brP_t, brP_f, brP_d, brP_n, scrOf, rg1, rg2, lstAt, lsOf, nt_of, nt_0, nt_1, slotR, slNew, slMu, slOf, setAll, Dl.En.set, Dl.En.wipe, wipeL, noMu_n, noMu_c, isMu_v, isMu_u, isMu_e, isMu_s, tg_nm, Dl.tg_tup, tgs_nil, tgs_cons, fSl, Rv.d, Rv.m, muD, rvDs, obAt, rvOb, obget_s, obget_e, obput_s, obput_e, put_nil, put_one, conv, argOf, argSlot, argExt, obsMu, seqD, env0, argSl, p_mul, p_mod, p_div, p_pow, p_catT, p_catL, p_maxI, p_minI, List.map_cons, List.map_nil, List.replicate_succ, List.replicate_zero, List.length_cons, List.length_nil, List.nil_append, List.cons_append, List.append_nil, List.getElem?_cons_zero, List.getElem?_cons_succ, List.getElem?_nil, List.set_cons_zero, List.set_cons_succ, List.set_nil, Option.bind_some, Option.bind_none, Option.map_some, Option.map_none, Option.some.injEq, Option.isSome_some, List.all_cons, List.all_nil, List.contains_nil, Bool.and_true, Bool.not_false, Bool.true_and, Rv.val.injEq, PyData.int.injEq, PyData.bool.injEq, PyData.tuple.injEq, PyData.list.injEq, and_assoc, Prod.mk.injEq, reduceCtorEq, Mu.lst.injEq, Int.reducePow, Int.reduceNeg, Int.reduceLT, Int.reduceLE, Int.reduceMul, Int.reduceAdd, Int.reduceSub, Int.reduceToNat, Nat.reduceLT, Nat.reduceLeDiff, Nat.zero_le, or_true, true_or, and_self, not_false_eq_true, forall_const, implies_true, if_true_left, false_or, or_false, p_oD, cut2m, List.all_cons, not_true_eq_false, false_implies, isi_bi, isi_bn, isi_bb, isi_bt, isi_bs, isi_ti, isi_tn, isi_tb, isi_tt, isi_ts, isi_si, isi_sn, isi_sb, isi_st, isi_ss, isi_ii, isi_in, isi_ib, isi_it, isi_is, x_add, x_sub, x_neg, x_lt, x_le, x_gt, x_ge, x_eqI, x_neI, x_is, x_isNot, x_ixL, x_ixT, x_int, x_abs, x_lenL, x_lenT, x_tupL, x_tupT, x_lstL, x_lstT, x_max2, x_min2, at0, at1, at2, at3, atNat, x_inT, x_inL, x_notInT, x_notInL, x_all, x_any, x_sumI, x_nilI, x_nnilI, x_nnilJ, x_eqT, x_neT, x_eqO, x_eqOI, isNone_oD, oD_n, oD_s, decide_eq_true_eq, decide_eq_false_iff_not, true_and, and_true, Nat.sub_self, Nat.reduceSub, Nat.reduceAdd, ite_true, Option.some_inj, eq_self, isNone, Bool.not_true, Int.reduceEq, decide_true, decide_false, exists_eq_left', exists_eq_left, dl_1, dl_2, eq_nn, ne_nn, rgD_hs, Int.toNat_natCast, List.length_map, cut40]
  refine optP_i (shaped2 a b) ?_
  simp only [↓e_C, ↓e_V, ↓e_Fz, ↓e_Op, ↓e_Un, ↓e_B, ↓e_Chain, ↓e_AndT, ↓e_OrT, ↓e_NotT, ↓e_AndV, ↓e_OrV, ↓e_NotV, ↓e_If, ↓e_Nil, ↓e_Cons, ↓e_Tup, ↓e_Lst, ↓e_CB, ↓e_CBN, ↓e_Isi, ↓e_TupRg1, ↓e_LstRg1, ↓e_TupRg2, ↓e_LstRg2, ↓e_ScrLen, ↓e_ScrAt, ↓e_SeqI, ↓e_Enum, ↓e_Rng1, ↓e_Rng2, ↓e_Seq, ↓e_Next, ↓e_Break, ↓e_Cont, ↓e_Drop, ↓e_Ret, ↓e_RetN, ↓e_Ret0, ↓e_IfS, ↓e_Asg, ↓e_AsgN, ↓e_AsgLc, ↓e_mNil, ↓e_mVal, ↓e_mNew, ↓e_Par, ↓e_For, ↓e_LoopN, ↓e_LoopC, ↓e_Lc, ↓e_Yes, ↓e_Call, ↓e_CallN, ↓e_Append, ↓e_Extend, ↓e_Pop, ↓e_PopAt, ↓e_SetAt, ↓e_Sl, ↓e_NoP, ↓e_P, ↓e_Aug, ↓e_SrtSet, optP_some, vaP_val, boP_val, inP_val, muP_lst, vals_nil, vals_cons, brP_t, brP_f, brP_d, brP_n, scrOf, rg1, rg2, lstAt, lsOf, nt_of, nt_0, nt_1, slotR, slNew, slMu, slOf, setAll, Dl.En.set, Dl.En.wipe, wipeL, noMu_n, noMu_c, isMu_v, isMu_u, isMu_e, isMu_s, tg_nm, Dl.tg_tup, tgs_nil, tgs_cons, fSl, Rv.d, Rv.m, muD, rvDs, obAt, rvOb, obget_s, obget_e, obput_s, obput_e, put_nil, put_one, conv, argOf, argSlot, argExt, obsMu, seqD, env0, argSl, p_mul, p_mod, p_div, p_pow, p_catT, p_catL, p_maxI, p_minI, List.map_cons, List.map_nil, List.replicate_succ, List.replicate_zero, List.length_cons, List.length_nil, List.nil_append, List.cons_append, List.append_nil, List.getElem?_cons_zero, List.getElem?_cons_succ, List.getElem?_nil, List.set_cons_zero, List.set_cons_succ, List.set_nil, Option.bind_some, Option.bind_none, Option.map_some, Option.map_none, Option.some.injEq, Option.isSome_some, List.all_cons, List.all_nil, List.contains_nil, Bool.and_true, Bool.not_false, Bool.true_and, Rv.val.injEq, PyData.int.injEq, PyData.bool.injEq, PyData.tuple.injEq, PyData.list.injEq, and_assoc, Prod.mk.injEq, reduceCtorEq, Mu.lst.injEq, Int.reducePow, Int.reduceNeg, Int.reduceLT, Int.reduceLE, Int.reduceMul, Int.reduceAdd, Int.reduceSub, Int.reduceToNat, Nat.reduceLT, Nat.reduceLeDiff, Nat.zero_le, or_true, true_or, and_self, not_false_eq_true, forall_const, implies_true, if_true_left, false_or, or_false, p_oD, cut2m, List.all_cons, not_true_eq_false, false_implies, isi_bi, isi_bn, isi_bb, isi_bt, isi_bs, isi_ti, isi_tn, isi_tb, isi_tt, isi_ts, isi_si, isi_sn, isi_sb, isi_st, isi_ss, isi_ii, isi_in, isi_ib, isi_it, isi_is, x_add, x_sub, x_neg, x_lt, x_le, x_gt, x_ge, x_eqI, x_neI, x_is, x_isNot, x_ixL, x_ixT, x_int, x_abs, x_lenL, x_lenT, x_tupL, x_tupT, x_lstL, x_lstT, x_max2, x_min2, at0, at1, at2, at3, atNat, x_inT, x_inL, x_notInT, x_notInL, x_all, x_any, x_sumI, x_nilI, x_nnilI, x_nnilJ, x_eqT, x_neT, x_eqO, x_eqOI, isNone_oD, oD_n, oD_s, decide_eq_true_eq, decide_eq_false_iff_not, true_and, and_true, Nat.sub_self, Nat.reduceSub, Nat.reduceAdd, ite_true, Option.some_inj, eq_self, isNone, Bool.not_true, Int.reduceEq, decide_true, decide_false, exists_eq_left', exists_eq_left, dl_1, dl_2, eq_nn, ne_nn, rgD_hs, Int.toNat_natCast, List.length_map, cut40]
  cases a with
  | none =>
    cases b with
    | none => simp only [↓e_C, ↓e_V, ↓e_Fz, ↓e_Op, ↓e_Un, ↓e_B, ↓e_Chain, ↓e_AndT, ↓e_OrT, ↓e_NotT, ↓e_AndV, ↓e_OrV, ↓e_NotV, ↓e_If, ↓e_Nil, ↓e_Cons, ↓e_Tup, ↓e_Lst, ↓e_CB, ↓e_CBN, ↓e_Isi, ↓e_TupRg1, ↓e_LstRg1, ↓e_TupRg2, ↓e_LstRg2, ↓e_ScrLen, ↓e_ScrAt, ↓e_SeqI, ↓e_Enum, ↓e_Rng1, ↓e_Rng2, ↓e_Seq, ↓e_Next, ↓e_Break, ↓e_Cont, ↓e_Drop, ↓e_Ret, ↓e_RetN, ↓e_Ret0, ↓e_IfS, ↓e_Asg, ↓e_AsgN, ↓e_AsgLc, ↓e_mNil, ↓e_mVal, ↓e_mNew, ↓e_Par, ↓e_For, ↓e_LoopN, ↓e_LoopC, ↓e_Lc, ↓e_Yes, ↓e_Call, ↓e_CallN, ↓e_Append, ↓e_Extend, ↓e_Pop, ↓e_PopAt, ↓e_SetAt, ↓e_Sl, ↓e_NoP, ↓e_P, ↓e_Aug, ↓e_SrtSet, optP_some, vaP_val, boP_val, inP_val, muP_lst, vals_nil, vals_cons, brP_t, brP_f, brP_d, brP_n, scrOf, rg1, rg2, lstAt, lsOf, nt_of, nt_0, nt_1, slotR, slNew, slMu, slOf, setAll, Dl.En.set, Dl.En.wipe, wipeL, noMu_n, noMu_c, isMu_v, isMu_u, isMu_e, isMu_s, tg_nm, Dl.tg_tup, tgs_nil, tgs_cons, fSl, Rv.d, Rv.m, muD, rvDs, obAt, rvOb, obget_s, obget_e, obput_s, obput_e, put_nil, put_one, conv, argOf, argSlot, argExt, obsMu, seqD, env0, argSl, p_mul, p_mod, p_div, p_pow, p_catT, p_catL, p_maxI, p_minI, List.map_cons, List.map_nil, List.replicate_succ, List.replicate_zero, List.length_cons, List.length_nil, List.nil_append, List.cons_append, List.append_nil, List.getElem?_cons_zero, List.getElem?_cons_succ, List.getElem?_nil, List.set_cons_zero, List.set_cons_succ, List.set_nil, Option.bind_some, Option.bind_none, Option.map_some, Option.map_none, Option.some.injEq, Option.isSome_some, List.all_cons, List.all_nil, List.contains_nil, Bool.and_true, Bool.not_false, Bool.true_and, Rv.val.injEq, PyData.int.injEq, PyData.bool.injEq, PyData.tuple.injEq, PyData.list.injEq, and_assoc, Prod.mk.injEq, reduceCtorEq, Mu.lst.injEq, Int.reducePow, Int.reduceNeg, Int.reduceLT, Int.reduceLE, Int.reduceMul, Int.reduceAdd, Int.reduceSub, Int.reduceToNat, Nat.reduceLT, Nat.reduceLeDiff, Nat.zero_le, or_true, true_or, and_self, not_false_eq_true, forall_const, implies_true, if_true_left, false_or, or_false, p_oD, cut2m, List.all_cons, not_true_eq_false, false_implies, isi_bi, isi_bn, isi_bb, isi_bt, isi_bs, isi_ti, isi_tn, isi_tb, isi_tt, isi_ts, isi_si, isi_sn, isi_sb, isi_st, isi_ss, isi_ii, isi_in, isi_ib, isi_it, isi_is, x_add, x_sub, x_neg, x_lt, x_le, x_gt, x_ge, x_eqI, x_neI, x_is, x_isNot, x_ixL, x_ixT, x_int, x_abs, x_lenL, x_lenT, x_tupL, x_tupT, x_lstL, x_lstT, x_max2, x_min2, at0, at1, at2, at3, atNat, x_inT, x_inL, x_notInT, x_notInL, x_all, x_any, x_sumI, x_nilI, x_nnilI, x_nnilJ, x_eqT, x_neT, x_eqO, x_eqOI, isNone_oD, oD_n, oD_s, decide_eq_true_eq, decide_eq_false_iff_not, true_and, and_true, Nat.sub_self, Nat.reduceSub, Nat.reduceAdd, ite_true, Option.some_inj, eq_self, isNone, Bool.not_true, Int.reduceEq, decide_true, decide_false, exists_eq_left', exists_eq_left, dl_1, dl_2, eq_nn, ne_nn, rgD_hs, Int.toNat_natCast, List.length_map, cut40]; exact q
    | some y => simp only [↓e_C, ↓e_V, ↓e_Fz, ↓e_Op, ↓e_Un, ↓e_B, ↓e_Chain, ↓e_AndT, ↓e_OrT, ↓e_NotT, ↓e_AndV, ↓e_OrV, ↓e_NotV, ↓e_If, ↓e_Nil, ↓e_Cons, ↓e_Tup, ↓e_Lst, ↓e_CB, ↓e_CBN, ↓e_Isi, ↓e_TupRg1, ↓e_LstRg1, ↓e_TupRg2, ↓e_LstRg2, ↓e_ScrLen, ↓e_ScrAt, ↓e_SeqI, ↓e_Enum, ↓e_Rng1, ↓e_Rng2, ↓e_Seq, ↓e_Next, ↓e_Break, ↓e_Cont, ↓e_Drop, ↓e_Ret, ↓e_RetN, ↓e_Ret0, ↓e_IfS, ↓e_Asg, ↓e_AsgN, ↓e_AsgLc, ↓e_mNil, ↓e_mVal, ↓e_mNew, ↓e_Par, ↓e_For, ↓e_LoopN, ↓e_LoopC, ↓e_Lc, ↓e_Yes, ↓e_Call, ↓e_CallN, ↓e_Append, ↓e_Extend, ↓e_Pop, ↓e_PopAt, ↓e_SetAt, ↓e_Sl, ↓e_NoP, ↓e_P, ↓e_Aug, ↓e_SrtSet, optP_some, vaP_val, boP_val, inP_val, muP_lst, vals_nil, vals_cons, brP_t, brP_f, brP_d, brP_n, scrOf, rg1, rg2, lstAt, lsOf, nt_of, nt_0, nt_1, slotR, slNew, slMu, slOf, setAll, Dl.En.set, Dl.En.wipe, wipeL, noMu_n, noMu_c, isMu_v, isMu_u, isMu_e, isMu_s, tg_nm, Dl.tg_tup, tgs_nil, tgs_cons, fSl, Rv.d, Rv.m, muD, rvDs, obAt, rvOb, obget_s, obget_e, obput_s, obput_e, put_nil, put_one, conv, argOf, argSlot, argExt, obsMu, seqD, env0, argSl, p_mul, p_mod, p_div, p_pow, p_catT, p_catL, p_maxI, p_minI, List.map_cons, List.map_nil, List.replicate_succ, List.replicate_zero, List.length_cons, List.length_nil, List.nil_append, List.cons_append, List.append_nil, List.getElem?_cons_zero, List.getElem?_cons_succ, List.getElem?_nil, List.set_cons_zero, List.set_cons_succ, List.set_nil, Option.bind_some, Option.bind_none, Option.map_some, Option.map_none, Option.some.injEq, Option.isSome_some, List.all_cons, List.all_nil, List.contains_nil, Bool.and_true, Bool.not_false, Bool.true_and, Rv.val.injEq, PyData.int.injEq, PyData.bool.injEq, PyData.tuple.injEq, PyData.list.injEq, and_assoc, Prod.mk.injEq, reduceCtorEq, Mu.lst.injEq, Int.reducePow, Int.reduceNeg, Int.reduceLT, Int.reduceLE, Int.reduceMul, Int.reduceAdd, Int.reduceSub, Int.reduceToNat, Nat.reduceLT, Nat.reduceLeDiff, Nat.zero_le, or_true, true_or, and_self, not_false_eq_true, forall_const, implies_true, if_true_left, false_or, or_false, p_oD, cut2m, List.all_cons, not_true_eq_false, false_implies, isi_bi, isi_bn, isi_bb, isi_bt, isi_bs, isi_ti, isi_tn, isi_tb, isi_tt, isi_ts, isi_si, isi_sn, isi_sb, isi_st, isi_ss, isi_ii, isi_in, isi_ib, isi_it, isi_is, x_add, x_sub, x_neg, x_lt, x_le, x_gt, x_ge, x_eqI, x_neI, x_is, x_isNot, x_ixL, x_ixT, x_int, x_abs, x_lenL, x_lenT, x_tupL, x_tupT, x_lstL, x_lstT, x_max2, x_min2, at0, at1, at2, at3, atNat, x_inT, x_inL, x_notInT, x_notInL, x_all, x_any, x_sumI, x_nilI, x_nnilI, x_nnilJ, x_eqT, x_neT, x_eqO, x_eqOI, isNone_oD, oD_n, oD_s, decide_eq_true_eq, decide_eq_false_iff_not, true_and, and_true, Nat.sub_self, Nat.reduceSub, Nat.reduceAdd, ite_true, Option.some_inj, eq_self, isNone, Bool.not_true, Int.reduceEq, decide_true, decide_false, exists_eq_left', exists_eq_left, dl_1, dl_2, eq_nn, ne_nn, rgD_hs, Int.toNat_natCast, List.length_map, cut40]; exact q
  | some x =>
    cases b with
    | none => simp only [↓e_C, ↓e_V, ↓e_Fz, ↓e_Op, ↓e_Un, ↓e_B, ↓e_Chain, ↓e_AndT, ↓e_OrT, ↓e_NotT, ↓e_AndV, ↓e_OrV, ↓e_NotV, ↓e_If, ↓e_Nil, ↓e_Cons, ↓e_Tup, ↓e_Lst, ↓e_CB, ↓e_CBN, ↓e_Isi, ↓e_TupRg1, ↓e_LstRg1, ↓e_TupRg2, ↓e_LstRg2, ↓e_ScrLen, ↓e_ScrAt, ↓e_SeqI, ↓e_Enum, ↓e_Rng1, ↓e_Rng2, ↓e_Seq, ↓e_Next, ↓e_Break, ↓e_Cont, ↓e_Drop, ↓e_Ret, ↓e_RetN, ↓e_Ret0, ↓e_IfS, ↓e_Asg, ↓e_AsgN, ↓e_AsgLc, ↓e_mNil, ↓e_mVal, ↓e_mNew, ↓e_Par, ↓e_For, ↓e_LoopN, ↓e_LoopC, ↓e_Lc, ↓e_Yes, ↓e_Call, ↓e_CallN, ↓e_Append, ↓e_Extend, ↓e_Pop, ↓e_PopAt, ↓e_SetAt, ↓e_Sl, ↓e_NoP, ↓e_P, ↓e_Aug, ↓e_SrtSet, optP_some, vaP_val, boP_val, inP_val, muP_lst, vals_nil, vals_cons, brP_t, brP_f, brP_d, brP_n, scrOf, rg1, rg2, lstAt, lsOf, nt_of, nt_0, nt_1, slotR, slNew, slMu, slOf, setAll, Dl.En.set, Dl.En.wipe, wipeL, noMu_n, noMu_c, isMu_v, isMu_u, isMu_e, isMu_s, tg_nm, Dl.tg_tup, tgs_nil, tgs_cons, fSl, Rv.d, Rv.m, muD, rvDs, obAt, rvOb, obget_s, obget_e, obput_s, obput_e, put_nil, put_one, conv, argOf, argSlot, argExt, obsMu, seqD, env0, argSl, p_mul, p_mod, p_div, p_pow, p_catT, p_catL, p_maxI, p_minI, List.map_cons, List.map_nil, List.replicate_succ, List.replicate_zero, List.length_cons, List.length_nil, List.nil_append, List.cons_append, List.append_nil, List.getElem?_cons_zero, List.getElem?_cons_succ, List.getElem?_nil, List.set_cons_zero, List.set_cons_succ, List.set_nil, Option.bind_some, Option.bind_none, Option.map_some, Option.map_none, Option.some.injEq, Option.isSome_some, List.all_cons, List.all_nil, List.contains_nil, Bool.and_true, Bool.not_false, Bool.true_and, Rv.val.injEq, PyData.int.injEq, PyData.bool.injEq, PyData.tuple.injEq, PyData.list.injEq, and_assoc, Prod.mk.injEq, reduceCtorEq, Mu.lst.injEq, Int.reducePow, Int.reduceNeg, Int.reduceLT, Int.reduceLE, Int.reduceMul, Int.reduceAdd, Int.reduceSub, Int.reduceToNat, Nat.reduceLT, Nat.reduceLeDiff, Nat.zero_le, or_true, true_or, and_self, not_false_eq_true, forall_const, implies_true, if_true_left, false_or, or_false, p_oD, cut2m, List.all_cons, not_true_eq_false, false_implies, isi_bi, isi_bn, isi_bb, isi_bt, isi_bs, isi_ti, isi_tn, isi_tb, isi_tt, isi_ts, isi_si, isi_sn, isi_sb, isi_st, isi_ss, isi_ii, isi_in, isi_ib, isi_it, isi_is, x_add, x_sub, x_neg, x_lt, x_le, x_gt, x_ge, x_eqI, x_neI, x_is, x_isNot, x_ixL, x_ixT, x_int, x_abs, x_lenL, x_lenT, x_tupL, x_tupT, x_lstL, x_lstT, x_max2, x_min2, at0, at1, at2, at3, atNat, x_inT, x_inL, x_notInT, x_notInL, x_all, x_any, x_sumI, x_nilI, x_nnilI, x_nnilJ, x_eqT, x_neT, x_eqO, x_eqOI, isNone_oD, oD_n, oD_s, decide_eq_true_eq, decide_eq_false_iff_not, true_and, and_true, Nat.sub_self, Nat.reduceSub, Nat.reduceAdd, ite_true, Option.some_inj, eq_self, isNone, Bool.not_true, Int.reduceEq, decide_true, decide_false, exists_eq_left', exists_eq_left, dl_1, dl_2, eq_nn, ne_nn, rgD_hs, Int.toNat_natCast, List.length_map, cut40]; exact q
    | some y =>
      simp only [↓e_C, ↓e_V, ↓e_Fz, ↓e_Op, ↓e_Un, ↓e_B, ↓e_Chain, ↓e_AndT, ↓e_OrT, ↓e_NotT, ↓e_AndV, ↓e_OrV, ↓e_NotV, ↓e_If, ↓e_Nil, ↓e_Cons, ↓e_Tup, ↓e_Lst, ↓e_CB, ↓e_CBN, ↓e_Isi, ↓e_TupRg1, ↓e_LstRg1, ↓e_TupRg2, ↓e_LstRg2, ↓e_ScrLen, ↓e_ScrAt, ↓e_SeqI, ↓e_Enum, ↓e_Rng1, ↓e_Rng2, ↓e_Seq, ↓e_Next, ↓e_Break, ↓e_Cont, ↓e_Drop, ↓e_Ret, ↓e_RetN, ↓e_Ret0, ↓e_IfS, ↓e_Asg, ↓e_AsgN, ↓e_AsgLc, ↓e_mNil, ↓e_mVal, ↓e_mNew, ↓e_Par, ↓e_For, ↓e_LoopN, ↓e_LoopC, ↓e_Lc, ↓e_Yes, ↓e_Call, ↓e_CallN, ↓e_Append, ↓e_Extend, ↓e_Pop, ↓e_PopAt, ↓e_SetAt, ↓e_Sl, ↓e_NoP, ↓e_P, ↓e_Aug, ↓e_SrtSet, optP_some, vaP_val, boP_val, inP_val, muP_lst, vals_nil, vals_cons, brP_t, brP_f, brP_d, brP_n, scrOf, rg1, rg2, lstAt, lsOf, nt_of, nt_0, nt_1, slotR, slNew, slMu, slOf, setAll, Dl.En.set, Dl.En.wipe, wipeL, noMu_n, noMu_c, isMu_v, isMu_u, isMu_e, isMu_s, tg_nm, Dl.tg_tup, tgs_nil, tgs_cons, fSl, Rv.d, Rv.m, muD, rvDs, obAt, rvOb, obget_s, obget_e, obput_s, obput_e, put_nil, put_one, conv, argOf, argSlot, argExt, obsMu, seqD, env0, argSl, p_mul, p_mod, p_div, p_pow, p_catT, p_catL, p_maxI, p_minI, List.map_cons, List.map_nil, List.replicate_succ, List.replicate_zero, List.length_cons, List.length_nil, List.nil_append, List.cons_append, List.append_nil, List.getElem?_cons_zero, List.getElem?_cons_succ, List.getElem?_nil, List.set_cons_zero, List.set_cons_succ, List.set_nil, Option.bind_some, Option.bind_none, Option.map_some, Option.map_none, Option.some.injEq, Option.isSome_some, List.all_cons, List.all_nil, List.contains_nil, Bool.and_true, Bool.not_false, Bool.true_and, Rv.val.injEq, PyData.int.injEq, PyData.bool.injEq, PyData.tuple.injEq, PyData.list.injEq, and_assoc, Prod.mk.injEq, reduceCtorEq, Mu.lst.injEq, Int.reducePow, Int.reduceNeg, Int.reduceLT, Int.reduceLE, Int.reduceMul, Int.reduceAdd, Int.reduceSub, Int.reduceToNat, Nat.reduceLT, Nat.reduceLeDiff, Nat.zero_le, or_true, true_or, and_self, not_false_eq_true, forall_const, implies_true, if_true_left, false_or, or_false, p_oD, cut2m, List.all_cons, not_true_eq_false, false_implies, isi_bi, isi_bn, isi_bb, isi_bt, isi_bs, isi_ti, isi_tn, isi_tb, isi_tt, isi_ts, isi_si, isi_sn, isi_sb, isi_st, isi_ss, isi_ii, isi_in, isi_ib, isi_it, isi_is, x_add, x_sub, x_neg, x_lt, x_le, x_gt, x_ge, x_eqI, x_neI, x_is, x_isNot, x_ixL, x_ixT, x_int, x_abs, x_lenL, x_lenT, x_tupL, x_tupT, x_lstL, x_lstT, x_max2, x_min2, at0, at1, at2, at3, atNat, x_inT, x_inL, x_notInT, x_notInL, x_all, x_any, x_sumI, x_nilI, x_nnilI, x_nnilJ, x_eqT, x_neT, x_eqO, x_eqOI, isNone_oD, oD_n, oD_s, decide_eq_true_eq, decide_eq_false_iff_not, true_and, and_true, Nat.sub_self, Nat.reduceSub, Nat.reduceAdd, ite_true, Option.some_inj, eq_self, isNone, Bool.not_true, Int.reduceEq, decide_true, decide_false, exists_eq_left', exists_eq_left, dl_1, dl_2, eq_nn, ne_nn, rgD_hs, Int.toNat_natCast, List.length_map, cut40]
      refine ⟨fun e => ?_, fun e => ?_⟩
      · subst e; simpa using q
      · have e' : decide (some x = some y) = false := by simp [e]
        rw [e'] at q; exact q
end Dl
namespace Dl
open PySem L2
/-! ### the plain law -/
theorem mem_tellers {told : List (Option Int)} {n x : Int} : x ∈ tellers told n ↔ ∃ j : Nat, x = j ∧ told[j]? = some (some n) := by
  unfold tellers
  simp only [List.mem_map, List.mem_filter, List.mem_range, decide_eq_true_eq]
  constructor
  · rintro ⟨j, ⟨_, h⟩, rfl⟩; exact ⟨j, rfl, h⟩
  · rintro ⟨j, rfl, h⟩
    exact ⟨j, ⟨(List.getElem?_eq_some_iff.mp h).1, h⟩, rfl⟩
theorem mem_sure {f : List (List Int)} {told : List (Option Int)} {n : Int} : n ∈ sureL f told ↔ some n ∈ told ∧ may f (tellers told n) = false := by
  unfold sureL
  rw [List.mem_filterMap]
  constructor
  · rintro ⟨o, h, e⟩
    cases e
    obtain ⟨h1, h2⟩ := List.mem_filter.mp h
    exact ⟨h1, by simpa [sureB] using h2⟩
  · rintro ⟨h1, h2⟩
    exact ⟨some n, List.mem_filter.mpr ⟨h1, by simp [sureB, h2]⟩, rfl⟩
theorem newest_mem {f : List (List Int)} {told : List (Option Int)} {n : Int} (h : newest f told = some n) : n ∈ sureL f told ∧ ∀ m ∈ sureL f told, m ≤ n := by
  unfold newest at h
  split at h
  · rename_i h0
    cases h
    exact maxI_spec h0
  · cases h
theorem newest_of {f : List (List Int)} {told : List (Option Int)} {n : Int} (h : n ∈ sureL f told) : ∃ m, newest f told = some m ∧ n ≤ m := by
  have h0 : 0 < (sureL f told).length := List.length_pos_of_mem h
  exact ⟨_, by unfold newest; rw [if_pos h0], (maxI_spec h0).2 n h⟩
/-- what is told, but for what liars say -/
structure Hon (holds s l : List Int) (told : List (Option Int)) : Prop where
  len : told.length = holds.length
  si : ∀ (j : Nat) (o : Option Int), told[j]? = some o → (j : Int) ∉ l → o = none ∨ o = holds[j]?
  sn : ∀ j : Nat, (j : Int) ∈ s → told[j]? = some none
theorem may_mono {f : List (List Int)} {a b : List Int} (h : ∀ x ∈ a, x ∈ b) (hb : may f b = true) : may f a = true := by
  unfold may at hb ⊢
  rw [List.any_eq_true] at hb ⊢
  obtain ⟨k, hk, hw⟩ := hb
  exact ⟨k, hk, within_iff.mpr fun x hx => within_iff.mp hw x (h x hx)⟩
/-- never newer; some honest house holds it -/
theorem law_newest {f : List (List Int)} {holds s l : List Int} {told : List (Option Int)} {n : Int} (H : Hon holds s l told) (hl : ∃ a ∈ f, l.Sublist a) (h : newest f told = some n) : ∃ j : Nat, (j : Int) ∉ l ∧ holds[j]? = some n := by
  obtain ⟨h1, h2⟩ := mem_sure.mp (newest_mem h).1
  obtain ⟨a, ha, hs⟩ := hl
  have hw : within (tellers told n) a = false := by
    unfold may at h2
    rw [List.any_eq_false] at h2
    simpa using h2 a ha
  have : ∃ x ∈ tellers told n, x ∉ a := by
    refine Classical.byContradiction fun hc => ?_
    have : within (tellers told n) a = true := within_iff.mpr fun x hx => Classical.byContradiction fun z => hc ⟨x, hx, z⟩
    rw [hw] at this; cases this
  obtain ⟨x, hx, hxa⟩ := this
  obtain ⟨j, rfl, hj⟩ := mem_tellers.mp hx
  have hjl : (j : Int) ∉ l := fun z => hxa (hs.subset z)
  refine ⟨j, hjl, ?_⟩
  rcases H.si j _ hj hjl with e | e
  · cases e
  · exact e.symm
/-- with one more that tells -/
theorem newest_more {f : List (List Int)} {told : List (Option Int)} {n v : Int} {j : Nat} (hj : told[j]? = some none) (h : newest f told = some n) : ∃ m, newest f (told.set j (some v)) = some m ∧ n ≤ m := by
  obtain ⟨h1, h2⟩ := mem_sure.mp (newest_mem h).1
  have keep : ∀ i : Nat, told[i]? = some (some n) → (told.set j (some v))[i]? = some (some n) := fun i hi => by
    have hne : j ≠ i := fun e => by rw [e, hi] at hj; cases hj
    rw [List.getElem?_set_ne hne]; exact hi
  refine newest_of (mem_sure.mpr ⟨?_, ?_⟩)
  · obtain ⟨i, hi⟩ := List.getElem?_of_mem h1
    exact List.mem_of_getElem? (keep i hi)
  · refine Bool.eq_false_iff.mpr fun z => ?_
    have := may_mono (f := f) (a := tellers told n) (fun x hx => ?_) z
    · rw [h2] at this; cases this
    · obtain ⟨i, rfl, hi⟩ := mem_tellers.mp hx
      exact mem_tellers.mpr ⟨i, rfl, keep i hi⟩
theorem greatest_le {told : List (Option Int)} {b n : Int} (hb : ∀ x, some x ∈ told → x ≤ b) (h : greatestN told = some n) : n ≤ b := by
  unfold greatestN at h
  split at h
  · rename_i h0
    cases h
    have := (maxI_spec h0).1
    obtain ⟨o, ho, e⟩ := List.mem_filterMap.mp this
    cases o with
    | none => cases e
    | some y => exact hb _ (by have := (List.mem_filter.mp ho).1; cases e; exact this)
  · cases h
theorem Hon.of {m : Nat} {f : List (List Int)} {number : Int} {holds s l : List Int} {told : List (Option Int)} (hi : HiOk m f number holds s l) (hf : LiOk m f) (h : TdOk number holds s l false told) : Hon holds s l told where
  len := h.len
  si := fun j o hj hl => by
    have t := h.td j o hj
    by_cases z : (j : Int) ∈ s
    · exact .inl (t.si z)
    · exact .inr (t.ho z hl)
  sn := fun j hj => by
    obtain ⟨a, ha, hs⟩ := hi.s
    have := hs_mem.mp ((hf.sub a ha).subset (hs.subset hj))
    have hlt : j < told.length := by rw [h.len, hi.len]; omega
    rw [List.getElem?_eq_getElem hlt, (h.td j _ (List.getElem?_eq_getElem hlt)).si hj]
/-- newer numbers by those that lie -/
def newer (number : Int) (s l : List Int) (p : Option Int × Nat) : Option Int := if l.contains (p.2 : Int) && !s.contains (p.2 : Int) then some (number + 5) else p.1
theorem Hon.newer {number : Int} {holds s l : List Int} {told : List (Option Int)} (h : Hon holds s l told) : Hon holds s l (told.zipIdx.map (newer number s l)) where
  len := by rw [List.length_map, List.length_zipIdx]; exact h.len
  si := fun j o hj hl => by
    rw [List.getElem?_map, List.getElem?_zipIdx] at hj
    cases z : told[j]? with
    | none => rw [z] at hj; cases hj
    | some o' =>
      rw [z] at hj
      have e : o = o' := by
        simp only [Option.map_some, Option.some.injEq, Dl.newer, Nat.zero_add] at hj
        rw [if_neg (by simp [hl])] at hj
        exact hj.symm
      subst e
      exact h.si j o z hl
  sn := fun j hj => by
    rw [List.getElem?_map, List.getElem?_zipIdx, h.sn j hj]
    simp [Dl.newer, hj]
/-- the names of law -/
def lawE (ns : List Int) (k g r : Int) (m : Nat) (f : List (List Int)) (t number : Int) (holds s l : List Int) (told s12 s13 s14 s15 s16 : Sl) : En :=
  ⟨[.scr ns, .val (.int k), .mu (.lst [.int g, .int r]), .val (.int m), .val (tF f), .val (.int t), .val (hiD number holds s l), .val (.int number), .val (tI holds), .val (tI s), .val (tI l), told, s12, s13, s14, s15, s16], []⟩
def T_law : DSp where
  run := fun args xt Q => ∃ ns : List Int, args = [.scr ns] ∧ xt = [] ∧ Q (.val (.bool true)) xt
  mono := fun k ⟨ns, e, x, q⟩ => ⟨ns, e, x, k _ _ q⟩
def r_law_c4 : RS := dSeq (dAsg (dCall T_newest_signed 1 [false] (dCons (dCall T__law_told_by 3 [true, false, false] (dCons (dV 2) (dCons (dV 6) (dCons (dC (.bool true)) dNil)))) dNil)) (.nm 15)) (dIfS (dAndT (dB (dOp fIsNot (dV 15) (dC .none))) (dB (dOp fGt (dV 15) (dV 7)))) (dRet (dC (.bool false))) dNext)
def r_law_c3 : RS := dSeq (dFor (dSeqI (dSl (dFz (dLc (dSeqI (dV 9)) (.nm 16) (dB (dOp (fIn true) (dV 16) (dV 10))) (dV 16) [16])) dNoP (dP (dC (.int 2))))) (.nm 13) (dSeq (dSetAt 11 (dOp fIx (dV 8) (dV 13)) (dV 13)) (dSeq (dAsg (dCall T_newest_told 2 [false, false] (dCons (dV 4) (dCons (dCB fTuple (dCons (dV 11) dNil)) dNil))) (.nm 14)) (dSeq (dIfS (dAndT (dB (dOp fIsNot (dV 12) (dC .none))) (dOrT (dB (dOp fIs0 (dV 14) (dC .none))) (dB (dOp fLt (dV 14) (dV 12))))) (dRet (dC (.bool false))) dNext) (dAsg (dV 14) (.nm 12)))))) r_law_c4
def r_law_c2 : RS := dSeq (dAsg (dCall T_newest_told 2 [false, false] (dCons (dV 4) (dCons (dCB fTuple (dCons (dV 11) dNil)) dNil))) (.nm 12)) (dSeq (dIfS (dNotT (dB (dCall T__law_like 2 [false, false] (dCons (dV 12) (dCons (dCall T__law_newest 2 [false, false] (dCons (dV 4) (dCons (dV 11) dNil))) dNil))))) (dRet (dC (.bool false))) dNext) (dSeq (dIfS (dAndT (dB (dOp fIsNot (dV 12) (dC .none))) (dOrT (dB (dOp fGt (dV 12) (dV 7))) (dB (dOp (fIn true) (dV 12) (dFz (dLc (dRng1 (dCons (dV 3) dNil)) (.nm 13) (dB (dOp (fIn true) (dV 13) (dV 10))) (dOp fIx (dV 8) (dV 13)) [13])))))) (dRet (dC (.bool false))) dNext) r_law_c3))
def r_law_c1 : RS := dSeq (dIfS (dB (dOp fEq (dV 5) (dC (.int 0)))) (dAsgN 11 (dLc (dEnum (dV 11)) (.tup [.nm 13, .nm 16]) dYes (dIf (dAndT (dB (dOp (fIn false) (dV 13) (dV 10))) (dB (dOp (fIn true) (dV 13) (dV 9)))) (dOp fAdd (dV 7) (dC (.int 5))) (dV 16)) [13, 16])) dNext) r_law_c2
def r_law_c5 : RS := dSeq (dAsg (dCall T__law_history 3 [true, false, false] (dCons (dV 2) (dCons (dV 3) (dCons (dV 4) dNil)))) (.nm 6)) (dSeq (dAsg (dV 6) (.tup [.nm 7, .nm 8, .nm 9, .nm 10])) (dSeq (dOrS (dAsgN 11 (dCBN fList (dCons (dCall T__law_told_by 3 [true, false, false] (dCons (dV 2) (dCons (dV 6) (dCons (dC (.bool false)) dNil)))) dNil))) (dAsg (dFz (dCBN fList (dCons (dCall T__law_told_by 3 [true, false, false] (dCons (dV 2) (dCons (dV 6) (dCons (dC (.bool false)) dNil)))) dNil))) (.nm 11))) r_law_c1))
def r_law : RS := dSeq (dIfS (dOrT (dB (dOp fIsNot (dCall T_newest_told 2 [false, false] (dCons (dTup (dCons (dTup (dCons (dC (.int 0)) (dCons (dC (.int 1)) dNil))) (dCons (dTup (dCons (dC (.int 2)) dNil)) dNil))) (dCons (dTup (dCons (dC (.int 9)) (dCons (dC (.int 9)) (dCons (dC (.int 3)) dNil)))) dNil))) (dC .none))) (dNotT (dB (dCall T__law_like 2 [false, false] (dCons (dCall T_newest_told 2 [false, false] (dCons (dTup (dCons (dTup (dCons (dC (.int 0)) (dCons (dC (.int 1)) dNil))) (dCons (dTup (dCons (dC (.int 2)) dNil)) dNil))) (dCons (dTup (dCons (dC (.int 9)) (dCons (dC (.int 4)) (dCons (dC (.int 4)) dNil)))) dNil))) (dCons (dC (.int 4)) dNil)))))) (dRet (dC (.bool false))) dNext) (dSeq (dFor (dRng1 (dCons (dCB fMax2 (dCons (dC (.int 3)) (dCons (dCB fMin2 (dCons (dScrLen 0) (dCons (dC (.int 8)) dNil))) dNil))) dNil)) (.nm 1) (dSeq (dAsgN 2 (dCallN T__law_box 2 [false, false] (dCons (dV 0) (dCons (dV 1) dNil)))) (dSeq (dAsg (dOp fAdd (dC (.int 1)) (dCall T__law_take 2 [true, false] (dCons (dV 2) (dCons (dC (.int 8)) dNil)))) (.nm 3)) (dSeq (dAsg (dCall T__law_liars 2 [true, false] (dCons (dV 2) (dCons (dV 3) dNil))) (.nm 4)) (dFor (dRng1 (dCons (dC (.int 3)) dNil)) (.nm 5) r_law_c5))))) (dRet (dC (.bool true))))
section
variable {ns : List Int} {k g r : Int} {m : Nat} {f : List (List Int)} {t number : Int} {holds s l : List Int} {told : List (Option Int)} {s12 s13 s14 s15 s16 ts : Sl} {De : DEnds}
theorem c4_ok (hi : HiOk m f number holds s l) (hm : m ≤ 12) (hN : ∀ g r s15, De.nx (lawE ns k g r m f t number holds s l ts s12 s13 s14 s15 s16)) : r_law_c4 De (lawE ns k g r m f t number holds s l ts s12 s13 s14 s15 s16) := by
  unfold r_law_c4
  unfold lawE at hN ⊢
  simp only [↓e_C, ↓e_V, ↓e_Fz, ↓e_Op, ↓e_Un, ↓e_B, ↓e_Chain, ↓e_AndT, ↓e_OrT, ↓e_NotT, ↓e_AndV, ↓e_OrV, ↓e_NotV, ↓e_If, ↓e_Nil, ↓e_Cons, ↓e_Tup, ↓e_Lst, ↓e_CB, ↓e_CBN, ↓e_Isi, ↓e_TupRg1, ↓e_LstRg1, ↓e_TupRg2, ↓e_LstRg2, ↓e_ScrLen, ↓e_ScrAt, ↓e_SeqI, ↓e_Enum, ↓e_Rng1, ↓e_Rng2, ↓e_Seq, ↓e_Next, ↓e_Break, ↓e_Cont, ↓e_Drop, ↓e_Ret, ↓e_RetN, ↓e_Ret0, ↓e_IfS, ↓e_Asg, ↓e_AsgN, ↓e_AsgLc, ↓e_mNil, ↓e_mVal, ↓e_mNew, ↓e_Par, ↓e_For, ↓e_LoopN, ↓e_LoopC, ↓e_Lc, ↓e_Yes, ↓e_Call, ↓e_CallN, ↓e_Append, ↓e_Extend, ↓e_Pop, ↓e_PopAt, ↓e_SetAt, ↓e_Sl, ↓e_NoP, ↓e_P, ↓e_Aug, ↓e_SrtSet, optP_some, vaP_val, boP_val, inP_val, muP_lst, vals_nil, vals_cons, brP_t, brP_f, brP_d, brP_n, scrOf, rg1, rg2, lstAt, lsOf, nt_of, nt_0, nt_1, slotR, slNew, slMu, slOf, setAll, Dl.En.set, Dl.En.wipe, wipeL, noMu_n, noMu_c, isMu_v, isMu_u, isMu_e, isMu_s, tg_nm, Dl.tg_tup, tgs_nil, tgs_cons, fSl, Rv.d, Rv.m, muD, rvDs, obAt, rvOb, obget_s, obget_e, obput_s, obput_e, put_nil, put_one, conv, argOf, argSlot, argExt, obsMu, seqD, env0, argSl, p_mul, p_mod, p_div, p_pow, p_catT, p_catL, p_maxI, p_minI, List.map_cons, List.map_nil, List.replicate_succ, List.replicate_zero, List.length_cons, List.length_nil, List.nil_append, List.cons_append, List.append_nil, List.getElem?_cons_zero, List.getElem?_cons_succ, List.getElem?_nil, List.set_cons_zero, List.set_cons_succ, List.set_nil, Option.bind_some, Option.bind_none, Option.map_some, Option.map_none, Option.some.injEq, Option.isSome_some, List.all_cons, List.all_nil, List.contains_nil, Bool.and_true, Bool.not_false, Bool.true_and, Rv.val.injEq, PyData.int.injEq, PyData.bool.injEq, PyData.tuple.injEq, PyData.list.injEq, and_assoc, Prod.mk.injEq, reduceCtorEq, Mu.lst.injEq, Int.reducePow, Int.reduceNeg, Int.reduceLT, Int.reduceLE, Int.reduceMul, Int.reduceAdd, Int.reduceSub, Int.reduceToNat, Nat.reduceLT, Nat.reduceLeDiff, Nat.zero_le, or_true, true_or, and_self, not_false_eq_true, forall_const, implies_true, if_true_left, false_or, or_false, p_oD, cut2m, List.all_cons, not_true_eq_false, false_implies, isi_bi, isi_bn, isi_bb, isi_bt, isi_bs, isi_ti, isi_tn, isi_tb, isi_tt, isi_ts, isi_si, isi_sn, isi_sb, isi_st, isi_ss, isi_ii, isi_in, isi_ib, isi_it, isi_is, x_add, x_sub, x_neg, x_lt, x_le, x_gt, x_ge, x_eqI, x_neI, x_is, x_isNot, x_ixL, x_ixT, x_int, x_abs, x_lenL, x_lenT, x_tupL, x_tupT, x_lstL, x_lstT, x_max2, x_min2, at0, at1, at2, at3, atNat, x_inT, x_inL, x_notInT, x_notInL, x_all, x_any, x_sumI, x_nilI, x_nnilI, x_nnilJ, x_eqT, x_neT, x_eqO, x_eqOI, isNone_oD, oD_n, oD_s, decide_eq_true_eq, decide_eq_false_iff_not, true_and, and_true, Nat.sub_self, Nat.reduceSub, Nat.reduceAdd, ite_true, Option.some_inj, eq_self, isNone, Bool.not_true, Int.reduceEq, decide_true, decide_false, exists_eq_left', exists_eq_left, dl_1, dl_2, eq_nn, ne_nn, rgD_hs, Int.toNat_natCast, List.length_map, cut40]
  refine box_told hi.n0 (by have := hi.n1; omega) (by rw [hi.len]; omega) hi.le fun told g r ht => ?_
  simp only [↓e_C, ↓e_V, ↓e_Fz, ↓e_Op, ↓e_Un, ↓e_B, ↓e_Chain, ↓e_AndT, ↓e_OrT, ↓e_NotT, ↓e_AndV, ↓e_OrV, ↓e_NotV, ↓e_If, ↓e_Nil, ↓e_Cons, ↓e_Tup, ↓e_Lst, ↓e_CB, ↓e_CBN, ↓e_Isi, ↓e_TupRg1, ↓e_LstRg1, ↓e_TupRg2, ↓e_LstRg2, ↓e_ScrLen, ↓e_ScrAt, ↓e_SeqI, ↓e_Enum, ↓e_Rng1, ↓e_Rng2, ↓e_Seq, ↓e_Next, ↓e_Break, ↓e_Cont, ↓e_Drop, ↓e_Ret, ↓e_RetN, ↓e_Ret0, ↓e_IfS, ↓e_Asg, ↓e_AsgN, ↓e_AsgLc, ↓e_mNil, ↓e_mVal, ↓e_mNew, ↓e_Par, ↓e_For, ↓e_LoopN, ↓e_LoopC, ↓e_Lc, ↓e_Yes, ↓e_Call, ↓e_CallN, ↓e_Append, ↓e_Extend, ↓e_Pop, ↓e_PopAt, ↓e_SetAt, ↓e_Sl, ↓e_NoP, ↓e_P, ↓e_Aug, ↓e_SrtSet, optP_some, vaP_val, boP_val, inP_val, muP_lst, vals_nil, vals_cons, brP_t, brP_f, brP_d, brP_n, scrOf, rg1, rg2, lstAt, lsOf, nt_of, nt_0, nt_1, slotR, slNew, slMu, slOf, setAll, Dl.En.set, Dl.En.wipe, wipeL, noMu_n, noMu_c, isMu_v, isMu_u, isMu_e, isMu_s, tg_nm, Dl.tg_tup, tgs_nil, tgs_cons, fSl, Rv.d, Rv.m, muD, rvDs, obAt, rvOb, obget_s, obget_e, obput_s, obput_e, put_nil, put_one, conv, argOf, argSlot, argExt, obsMu, seqD, env0, argSl, p_mul, p_mod, p_div, p_pow, p_catT, p_catL, p_maxI, p_minI, List.map_cons, List.map_nil, List.replicate_succ, List.replicate_zero, List.length_cons, List.length_nil, List.nil_append, List.cons_append, List.append_nil, List.getElem?_cons_zero, List.getElem?_cons_succ, List.getElem?_nil, List.set_cons_zero, List.set_cons_succ, List.set_nil, Option.bind_some, Option.bind_none, Option.map_some, Option.map_none, Option.some.injEq, Option.isSome_some, List.all_cons, List.all_nil, List.contains_nil, Bool.and_true, Bool.not_false, Bool.true_and, Rv.val.injEq, PyData.int.injEq, PyData.bool.injEq, PyData.tuple.injEq, PyData.list.injEq, and_assoc, Prod.mk.injEq, reduceCtorEq, Mu.lst.injEq, Int.reducePow, Int.reduceNeg, Int.reduceLT, Int.reduceLE, Int.reduceMul, Int.reduceAdd, Int.reduceSub, Int.reduceToNat, Nat.reduceLT, Nat.reduceLeDiff, Nat.zero_le, or_true, true_or, and_self, not_false_eq_true, forall_const, implies_true, if_true_left, false_or, or_false, p_oD, cut2m, List.all_cons, not_true_eq_false, false_implies, isi_bi, isi_bn, isi_bb, isi_bt, isi_bs, isi_ti, isi_tn, isi_tb, isi_tt, isi_ts, isi_si, isi_sn, isi_sb, isi_st, isi_ss, isi_ii, isi_in, isi_ib, isi_it, isi_is, x_add, x_sub, x_neg, x_lt, x_le, x_gt, x_ge, x_eqI, x_neI, x_is, x_isNot, x_ixL, x_ixT, x_int, x_abs, x_lenL, x_lenT, x_tupL, x_tupT, x_lstL, x_lstT, x_max2, x_min2, at0, at1, at2, at3, atNat, x_inT, x_inL, x_notInT, x_notInL, x_all, x_any, x_sumI, x_nilI, x_nnilI, x_nnilJ, x_eqT, x_neT, x_eqO, x_eqOI, isNone_oD, oD_n, oD_s, decide_eq_true_eq, decide_eq_false_iff_not, true_and, and_true, Nat.sub_self, Nat.reduceSub, Nat.reduceAdd, ite_true, Option.some_inj, eq_self, isNone, Bool.not_true, Int.reduceEq, decide_true, decide_false, exists_eq_left', exists_eq_left, dl_1, dl_2, eq_nn, ne_nn, rgD_hs, Int.toNat_natCast, List.length_map, cut40]
  refine ⟨told, rfl, by rw [ht.len, hi.len]; omega, ?_⟩
  simp only [↓e_C, ↓e_V, ↓e_Fz, ↓e_Op, ↓e_Un, ↓e_B, ↓e_Chain, ↓e_AndT, ↓e_OrT, ↓e_NotT, ↓e_AndV, ↓e_OrV, ↓e_NotV, ↓e_If, ↓e_Nil, ↓e_Cons, ↓e_Tup, ↓e_Lst, ↓e_CB, ↓e_CBN, ↓e_Isi, ↓e_TupRg1, ↓e_LstRg1, ↓e_TupRg2, ↓e_LstRg2, ↓e_ScrLen, ↓e_ScrAt, ↓e_SeqI, ↓e_Enum, ↓e_Rng1, ↓e_Rng2, ↓e_Seq, ↓e_Next, ↓e_Break, ↓e_Cont, ↓e_Drop, ↓e_Ret, ↓e_RetN, ↓e_Ret0, ↓e_IfS, ↓e_Asg, ↓e_AsgN, ↓e_AsgLc, ↓e_mNil, ↓e_mVal, ↓e_mNew, ↓e_Par, ↓e_For, ↓e_LoopN, ↓e_LoopC, ↓e_Lc, ↓e_Yes, ↓e_Call, ↓e_CallN, ↓e_Append, ↓e_Extend, ↓e_Pop, ↓e_PopAt, ↓e_SetAt, ↓e_Sl, ↓e_NoP, ↓e_P, ↓e_Aug, ↓e_SrtSet, optP_some, vaP_val, boP_val, inP_val, muP_lst, vals_nil, vals_cons, brP_t, brP_f, brP_d, brP_n, scrOf, rg1, rg2, lstAt, lsOf, nt_of, nt_0, nt_1, slotR, slNew, slMu, slOf, setAll, Dl.En.set, Dl.En.wipe, wipeL, noMu_n, noMu_c, isMu_v, isMu_u, isMu_e, isMu_s, tg_nm, Dl.tg_tup, tgs_nil, tgs_cons, fSl, Rv.d, Rv.m, muD, rvDs, obAt, rvOb, obget_s, obget_e, obput_s, obput_e, put_nil, put_one, conv, argOf, argSlot, argExt, obsMu, seqD, env0, argSl, p_mul, p_mod, p_div, p_pow, p_catT, p_catL, p_maxI, p_minI, List.map_cons, List.map_nil, List.replicate_succ, List.replicate_zero, List.length_cons, List.length_nil, List.nil_append, List.cons_append, List.append_nil, List.getElem?_cons_zero, List.getElem?_cons_succ, List.getElem?_nil, List.set_cons_zero, List.set_cons_succ, List.set_nil, Option.bind_some, Option.bind_none, Option.map_some, Option.map_none, Option.some.injEq, Option.isSome_some, List.all_cons, List.all_nil, List.contains_nil, Bool.and_true, Bool.not_false, Bool.true_and, Rv.val.injEq, PyData.int.injEq, PyData.bool.injEq, PyData.tuple.injEq, PyData.list.injEq, and_assoc, Prod.mk.injEq, reduceCtorEq, Mu.lst.injEq, Int.reducePow, Int.reduceNeg, Int.reduceLT, Int.reduceLE, Int.reduceMul, Int.reduceAdd, Int.reduceSub, Int.reduceToNat, Nat.reduceLT, Nat.reduceLeDiff, Nat.zero_le, or_true, true_or, and_self, not_false_eq_true, forall_const, implies_true, if_true_left, false_or, or_false, p_oD, cut2m, List.all_cons, not_true_eq_false, false_implies, isi_bi, isi_bn, isi_bb, isi_bt, isi_bs, isi_ti, isi_tn, isi_tb, isi_tt, isi_ts, isi_si, isi_sn, isi_sb, isi_st, isi_ss, isi_ii, isi_in, isi_ib, isi_it, isi_is, x_add, x_sub, x_neg, x_lt, x_le, x_gt, x_ge, x_eqI, x_neI, x_is, x_isNot, x_ixL, x_ixT, x_int, x_abs, x_lenL, x_lenT, x_tupL, x_tupT, x_lstL, x_lstT, x_max2, x_min2, at0, at1, at2, at3, atNat, x_inT, x_inL, x_notInT, x_notInL, x_all, x_any, x_sumI, x_nilI, x_nnilI, x_nnilJ, x_eqT, x_neT, x_eqO, x_eqOI, isNone_oD, oD_n, oD_s, decide_eq_true_eq, decide_eq_false_iff_not, true_and, and_true, Nat.sub_self, Nat.reduceSub, Nat.reduceAdd, ite_true, Option.some_inj, eq_self, isNone, Bool.not_true, Int.reduceEq, decide_true, decide_false, exists_eq_left', exists_eq_left, dl_1, dl_2, eq_nn, ne_nn, rgD_hs, Int.toNat_natCast, List.length_map, cut40]
  cases h : greatestN told with
  | none => simp only [↓e_C, ↓e_V, ↓e_Fz, ↓e_Op, ↓e_Un, ↓e_B, ↓e_Chain, ↓e_AndT, ↓e_OrT, ↓e_NotT, ↓e_AndV, ↓e_OrV, ↓e_NotV, ↓e_If, ↓e_Nil, ↓e_Cons, ↓e_Tup, ↓e_Lst, ↓e_CB, ↓e_CBN, ↓e_Isi, ↓e_TupRg1, ↓e_LstRg1, ↓e_TupRg2, ↓e_LstRg2, ↓e_ScrLen, ↓e_ScrAt, ↓e_SeqI, ↓e_Enum, ↓e_Rng1, ↓e_Rng2, ↓e_Seq, ↓e_Next, ↓e_Break, ↓e_Cont, ↓e_Drop, ↓e_Ret, ↓e_RetN, ↓e_Ret0, ↓e_IfS, ↓e_Asg, ↓e_AsgN, ↓e_AsgLc, ↓e_mNil, ↓e_mVal, ↓e_mNew, ↓e_Par, ↓e_For, ↓e_LoopN, ↓e_LoopC, ↓e_Lc, ↓e_Yes, ↓e_Call, ↓e_CallN, ↓e_Append, ↓e_Extend, ↓e_Pop, ↓e_PopAt, ↓e_SetAt, ↓e_Sl, ↓e_NoP, ↓e_P, ↓e_Aug, ↓e_SrtSet, optP_some, vaP_val, boP_val, inP_val, muP_lst, vals_nil, vals_cons, brP_t, brP_f, brP_d, brP_n, scrOf, rg1, rg2, lstAt, lsOf, nt_of, nt_0, nt_1, slotR, slNew, slMu, slOf, setAll, Dl.En.set, Dl.En.wipe, wipeL, noMu_n, noMu_c, isMu_v, isMu_u, isMu_e, isMu_s, tg_nm, Dl.tg_tup, tgs_nil, tgs_cons, fSl, Rv.d, Rv.m, muD, rvDs, obAt, rvOb, obget_s, obget_e, obput_s, obput_e, put_nil, put_one, conv, argOf, argSlot, argExt, obsMu, seqD, env0, argSl, p_mul, p_mod, p_div, p_pow, p_catT, p_catL, p_maxI, p_minI, List.map_cons, List.map_nil, List.replicate_succ, List.replicate_zero, List.length_cons, List.length_nil, List.nil_append, List.cons_append, List.append_nil, List.getElem?_cons_zero, List.getElem?_cons_succ, List.getElem?_nil, List.set_cons_zero, List.set_cons_succ, List.set_nil, Option.bind_some, Option.bind_none, Option.map_some, Option.map_none, Option.some.injEq, Option.isSome_some, List.all_cons, List.all_nil, List.contains_nil, Bool.and_true, Bool.not_false, Bool.true_and, Rv.val.injEq, PyData.int.injEq, PyData.bool.injEq, PyData.tuple.injEq, PyData.list.injEq, and_assoc, Prod.mk.injEq, reduceCtorEq, Mu.lst.injEq, Int.reducePow, Int.reduceNeg, Int.reduceLT, Int.reduceLE, Int.reduceMul, Int.reduceAdd, Int.reduceSub, Int.reduceToNat, Nat.reduceLT, Nat.reduceLeDiff, Nat.zero_le, or_true, true_or, and_self, not_false_eq_true, forall_const, implies_true, if_true_left, false_or, or_false, p_oD, cut2m, List.all_cons, not_true_eq_false, false_implies, isi_bi, isi_bn, isi_bb, isi_bt, isi_bs, isi_ti, isi_tn, isi_tb, isi_tt, isi_ts, isi_si, isi_sn, isi_sb, isi_st, isi_ss, isi_ii, isi_in, isi_ib, isi_it, isi_is, x_add, x_sub, x_neg, x_lt, x_le, x_gt, x_ge, x_eqI, x_neI, x_is, x_isNot, x_ixL, x_ixT, x_int, x_abs, x_lenL, x_lenT, x_tupL, x_tupT, x_lstL, x_lstT, x_max2, x_min2, at0, at1, at2, at3, atNat, x_inT, x_inL, x_notInT, x_notInL, x_all, x_any, x_sumI, x_nilI, x_nnilI, x_nnilJ, x_eqT, x_neT, x_eqO, x_eqOI, isNone_oD, oD_n, oD_s, decide_eq_true_eq, decide_eq_false_iff_not, true_and, and_true, Nat.sub_self, Nat.reduceSub, Nat.reduceAdd, ite_true, Option.some_inj, eq_self, isNone, Bool.not_true, Int.reduceEq, decide_true, decide_false, exists_eq_left', exists_eq_left, dl_1, dl_2, eq_nn, ne_nn, rgD_hs, Int.toNat_natCast, List.length_map, cut40]; exact hN g r _
  | some n =>
    simp only [↓e_C, ↓e_V, ↓e_Fz, ↓e_Op, ↓e_Un, ↓e_B, ↓e_Chain, ↓e_AndT, ↓e_OrT, ↓e_NotT, ↓e_AndV, ↓e_OrV, ↓e_NotV, ↓e_If, ↓e_Nil, ↓e_Cons, ↓e_Tup, ↓e_Lst, ↓e_CB, ↓e_CBN, ↓e_Isi, ↓e_TupRg1, ↓e_LstRg1, ↓e_TupRg2, ↓e_LstRg2, ↓e_ScrLen, ↓e_ScrAt, ↓e_SeqI, ↓e_Enum, ↓e_Rng1, ↓e_Rng2, ↓e_Seq, ↓e_Next, ↓e_Break, ↓e_Cont, ↓e_Drop, ↓e_Ret, ↓e_RetN, ↓e_Ret0, ↓e_IfS, ↓e_Asg, ↓e_AsgN, ↓e_AsgLc, ↓e_mNil, ↓e_mVal, ↓e_mNew, ↓e_Par, ↓e_For, ↓e_LoopN, ↓e_LoopC, ↓e_Lc, ↓e_Yes, ↓e_Call, ↓e_CallN, ↓e_Append, ↓e_Extend, ↓e_Pop, ↓e_PopAt, ↓e_SetAt, ↓e_Sl, ↓e_NoP, ↓e_P, ↓e_Aug, ↓e_SrtSet, optP_some, vaP_val, boP_val, inP_val, muP_lst, vals_nil, vals_cons, brP_t, brP_f, brP_d, brP_n, scrOf, rg1, rg2, lstAt, lsOf, nt_of, nt_0, nt_1, slotR, slNew, slMu, slOf, setAll, Dl.En.set, Dl.En.wipe, wipeL, noMu_n, noMu_c, isMu_v, isMu_u, isMu_e, isMu_s, tg_nm, Dl.tg_tup, tgs_nil, tgs_cons, fSl, Rv.d, Rv.m, muD, rvDs, obAt, rvOb, obget_s, obget_e, obput_s, obput_e, put_nil, put_one, conv, argOf, argSlot, argExt, obsMu, seqD, env0, argSl, p_mul, p_mod, p_div, p_pow, p_catT, p_catL, p_maxI, p_minI, List.map_cons, List.map_nil, List.replicate_succ, List.replicate_zero, List.length_cons, List.length_nil, List.nil_append, List.cons_append, List.append_nil, List.getElem?_cons_zero, List.getElem?_cons_succ, List.getElem?_nil, List.set_cons_zero, List.set_cons_succ, List.set_nil, Option.bind_some, Option.bind_none, Option.map_some, Option.map_none, Option.some.injEq, Option.isSome_some, List.all_cons, List.all_nil, List.contains_nil, Bool.and_true, Bool.not_false, Bool.true_and, Rv.val.injEq, PyData.int.injEq, PyData.bool.injEq, PyData.tuple.injEq, PyData.list.injEq, and_assoc, Prod.mk.injEq, reduceCtorEq, Mu.lst.injEq, Int.reducePow, Int.reduceNeg, Int.reduceLT, Int.reduceLE, Int.reduceMul, Int.reduceAdd, Int.reduceSub, Int.reduceToNat, Nat.reduceLT, Nat.reduceLeDiff, Nat.zero_le, or_true, true_or, and_self, not_false_eq_true, forall_const, implies_true, if_true_left, false_or, or_false, p_oD, cut2m, List.all_cons, not_true_eq_false, false_implies, isi_bi, isi_bn, isi_bb, isi_bt, isi_bs, isi_ti, isi_tn, isi_tb, isi_tt, isi_ts, isi_si, isi_sn, isi_sb, isi_st, isi_ss, isi_ii, isi_in, isi_ib, isi_it, isi_is, x_add, x_sub, x_neg, x_lt, x_le, x_gt, x_ge, x_eqI, x_neI, x_is, x_isNot, x_ixL, x_ixT, x_int, x_abs, x_lenL, x_lenT, x_tupL, x_tupT, x_lstL, x_lstT, x_max2, x_min2, at0, at1, at2, at3, atNat, x_inT, x_inL, x_notInT, x_notInL, x_all, x_any, x_sumI, x_nilI, x_nnilI, x_nnilJ, x_eqT, x_neT, x_eqO, x_eqOI, isNone_oD, oD_n, oD_s, decide_eq_true_eq, decide_eq_false_iff_not, true_and, and_true, Nat.sub_self, Nat.reduceSub, Nat.reduceAdd, ite_true, Option.some_inj, eq_self, isNone, Bool.not_true, Int.reduceEq, decide_true, decide_false, exists_eq_left', exists_eq_left, dl_1, dl_2, eq_nn, ne_nn, rgD_hs, Int.toNat_natCast, List.length_map, cut40]
    have := greatest_le (b := number) (fun x hx => by
      obtain ⟨j, hj⟩ := List.getElem?_of_mem hx
      exact (ht.td j _ hj).gr rfl x rfl) h
    exact ⟨fun z => by omega, fun _ => hN g r _⟩
theorem c3_ok (hi : HiOk m f number holds s l) (hf : LiOk m f) (hm : m ≤ 12) (H : Hon holds s l told) (h13 : nMu s13) (h16 : nMu s16) (hN : ∀ g r ts s12 s13 s14 s15, nMu s13 → De.nx (lawE ns k g r m f t number holds s l ts s12 s13 s14 s15 s16)) :
    r_law_c3 De (lawE ns k g r m f t number holds s l (.mu (.lst (told.map oD))) (.val (oD (newest f told))) s13 s14 s15 s16) := by
  have hs : s.Nodup ∧ s.length ≤ 12 := by
    obtain ⟨a, ha, h⟩ := hi.s
    exact ⟨((hs_nodup m).sublist (hf.sub a ha)).sublist h, by have := h.length_le; have := sub_len (hf.sub a ha); omega⟩
  unfold r_law_c3
  unfold lawE at hN ⊢
  simp only [↓e_C, ↓e_V, ↓e_Fz, ↓e_Op, ↓e_Un, ↓e_B, ↓e_Chain, ↓e_AndT, ↓e_OrT, ↓e_NotT, ↓e_AndV, ↓e_OrV, ↓e_NotV, ↓e_If, ↓e_Nil, ↓e_Cons, ↓e_Tup, ↓e_Lst, ↓e_CB, ↓e_CBN, ↓e_Isi, ↓e_TupRg1, ↓e_LstRg1, ↓e_TupRg2, ↓e_LstRg2, ↓e_ScrLen, ↓e_ScrAt, ↓e_SeqI, ↓e_Enum, ↓e_Rng1, ↓e_Rng2, ↓e_Seq, ↓e_Next, ↓e_Break, ↓e_Cont, ↓e_Drop, ↓e_Ret, ↓e_RetN, ↓e_Ret0, ↓e_IfS, ↓e_Asg, ↓e_AsgN, ↓e_AsgLc, ↓e_mNil, ↓e_mVal, ↓e_mNew, ↓e_Par, ↓e_For, ↓e_LoopN, ↓e_LoopC, ↓e_Lc, ↓e_Yes, ↓e_Call, ↓e_CallN, ↓e_Append, ↓e_Extend, ↓e_Pop, ↓e_PopAt, ↓e_SetAt, ↓e_Sl, ↓e_NoP, ↓e_P, ↓e_Aug, ↓e_SrtSet, optP_some, vaP_val, boP_val, inP_val, muP_lst, vals_nil, vals_cons, brP_t, brP_f, brP_d, brP_n, scrOf, rg1, rg2, lstAt, lsOf, nt_of, nt_0, nt_1, slotR, slNew, slMu, slOf, setAll, Dl.En.set, Dl.En.wipe, wipeL, noMu_n, noMu_c, isMu_v, isMu_u, isMu_e, isMu_s, tg_nm, Dl.tg_tup, tgs_nil, tgs_cons, fSl, Rv.d, Rv.m, muD, rvDs, obAt, rvOb, obget_s, obget_e, obput_s, obput_e, put_nil, put_one, conv, argOf, argSlot, argExt, obsMu, seqD, env0, argSl, p_mul, p_mod, p_div, p_pow, p_catT, p_catL, p_maxI, p_minI, List.map_cons, List.map_nil, List.replicate_succ, List.replicate_zero, List.length_cons, List.length_nil, List.nil_append, List.cons_append, List.append_nil, List.getElem?_cons_zero, List.getElem?_cons_succ, List.getElem?_nil, List.set_cons_zero, List.set_cons_succ, List.set_nil, Option.bind_some, Option.bind_none, Option.map_some, Option.map_none, Option.some.injEq, Option.isSome_some, List.all_cons, List.all_nil, List.contains_nil, Bool.and_true, Bool.not_false, Bool.true_and, Rv.val.injEq, PyData.int.injEq, PyData.bool.injEq, PyData.tuple.injEq, PyData.list.injEq, and_assoc, Prod.mk.injEq, reduceCtorEq, Mu.lst.injEq, Int.reducePow, Int.reduceNeg, Int.reduceLT, Int.reduceLE, Int.reduceMul, Int.reduceAdd, Int.reduceSub, Int.reduceToNat, Nat.reduceLT, Nat.reduceLeDiff, Nat.zero_le, or_true, true_or, and_self, not_false_eq_true, forall_const, implies_true, if_true_left, false_or, or_false, p_oD, cut2m, List.all_cons, not_true_eq_false, false_implies, isi_bi, isi_bn, isi_bb, isi_bt, isi_bs, isi_ti, isi_tn, isi_tb, isi_tt, isi_ts, isi_si, isi_sn, isi_sb, isi_st, isi_ss, isi_ii, isi_in, isi_ib, isi_it, isi_is, x_add, x_sub, x_neg, x_lt, x_le, x_gt, x_ge, x_eqI, x_neI, x_is, x_isNot, x_ixL, x_ixT, x_int, x_abs, x_lenL, x_lenT, x_tupL, x_tupT, x_lstL, x_lstT, x_max2, x_min2, at0, at1, at2, at3, atNat, x_inT, x_inL, x_notInT, x_notInL, x_all, x_any, x_sumI, x_nilI, x_nnilI, x_nnilJ, x_eqT, x_neT, x_eqO, x_eqOI, isNone_oD, oD_n, oD_s, decide_eq_true_eq, decide_eq_false_iff_not, true_and, and_true, Nat.sub_self, Nat.reduceSub, Nat.reduceAdd, ite_true, Option.some_inj, eq_self, isNone, Bool.not_true, Int.reduceEq, decide_true, decide_false, exists_eq_left', exists_eq_left, dl_1, dl_2, eq_nn, ne_nn, rgD_hs, Int.toNat_natCast, List.length_map, cut40]
  refine ⟨isMu_of h16, ?_⟩
  refine lcGo_fil (enc := PyData.int) (fun x => !l.contains x) PyData.int s (by omega) (fun x hx => ⟨_, rfl, rfl, fun QT h => ?_, fun _ QE h => ?_⟩) ?_
  · simp only [↓e_C, ↓e_V, ↓e_Fz, ↓e_Op, ↓e_Un, ↓e_B, ↓e_Chain, ↓e_AndT, ↓e_OrT, ↓e_NotT, ↓e_AndV, ↓e_OrV, ↓e_NotV, ↓e_If, ↓e_Nil, ↓e_Cons, ↓e_Tup, ↓e_Lst, ↓e_CB, ↓e_CBN, ↓e_Isi, ↓e_TupRg1, ↓e_LstRg1, ↓e_TupRg2, ↓e_LstRg2, ↓e_ScrLen, ↓e_ScrAt, ↓e_SeqI, ↓e_Enum, ↓e_Rng1, ↓e_Rng2, ↓e_Seq, ↓e_Next, ↓e_Break, ↓e_Cont, ↓e_Drop, ↓e_Ret, ↓e_RetN, ↓e_Ret0, ↓e_IfS, ↓e_Asg, ↓e_AsgN, ↓e_AsgLc, ↓e_mNil, ↓e_mVal, ↓e_mNew, ↓e_Par, ↓e_For, ↓e_LoopN, ↓e_LoopC, ↓e_Lc, ↓e_Yes, ↓e_Call, ↓e_CallN, ↓e_Append, ↓e_Extend, ↓e_Pop, ↓e_PopAt, ↓e_SetAt, ↓e_Sl, ↓e_NoP, ↓e_P, ↓e_Aug, ↓e_SrtSet, optP_some, vaP_val, boP_val, inP_val, muP_lst, vals_nil, vals_cons, brP_t, brP_f, brP_d, brP_n, scrOf, rg1, rg2, lstAt, lsOf, nt_of, nt_0, nt_1, slotR, slNew, slMu, slOf, setAll, Dl.En.set, Dl.En.wipe, wipeL, noMu_n, noMu_c, isMu_v, isMu_u, isMu_e, isMu_s, tg_nm, Dl.tg_tup, tgs_nil, tgs_cons, fSl, Rv.d, Rv.m, muD, rvDs, obAt, rvOb, obget_s, obget_e, obput_s, obput_e, put_nil, put_one, conv, argOf, argSlot, argExt, obsMu, seqD, env0, argSl, p_mul, p_mod, p_div, p_pow, p_catT, p_catL, p_maxI, p_minI, List.map_cons, List.map_nil, List.replicate_succ, List.replicate_zero, List.length_cons, List.length_nil, List.nil_append, List.cons_append, List.append_nil, List.getElem?_cons_zero, List.getElem?_cons_succ, List.getElem?_nil, List.set_cons_zero, List.set_cons_succ, List.set_nil, Option.bind_some, Option.bind_none, Option.map_some, Option.map_none, Option.some.injEq, Option.isSome_some, List.all_cons, List.all_nil, List.contains_nil, Bool.and_true, Bool.not_false, Bool.true_and, Rv.val.injEq, PyData.int.injEq, PyData.bool.injEq, PyData.tuple.injEq, PyData.list.injEq, and_assoc, Prod.mk.injEq, reduceCtorEq, Mu.lst.injEq, Int.reducePow, Int.reduceNeg, Int.reduceLT, Int.reduceLE, Int.reduceMul, Int.reduceAdd, Int.reduceSub, Int.reduceToNat, Nat.reduceLT, Nat.reduceLeDiff, Nat.zero_le, or_true, true_or, and_self, not_false_eq_true, forall_const, implies_true, if_true_left, false_or, or_false, p_oD, cut2m, List.all_cons, not_true_eq_false, false_implies, isi_bi, isi_bn, isi_bb, isi_bt, isi_bs, isi_ti, isi_tn, isi_tb, isi_tt, isi_ts, isi_si, isi_sn, isi_sb, isi_st, isi_ss, isi_ii, isi_in, isi_ib, isi_it, isi_is, x_add, x_sub, x_neg, x_lt, x_le, x_gt, x_ge, x_eqI, x_neI, x_is, x_isNot, x_ixL, x_ixT, x_int, x_abs, x_lenL, x_lenT, x_tupL, x_tupT, x_lstL, x_lstT, x_max2, x_min2, at0, at1, at2, at3, atNat, x_inT, x_inL, x_notInT, x_notInL, x_all, x_any, x_sumI, x_nilI, x_nnilI, x_nnilJ, x_eqT, x_neT, x_eqO, x_eqOI, isNone_oD, oD_n, oD_s, decide_eq_true_eq, decide_eq_false_iff_not, true_and, and_true, Nat.sub_self, Nat.reduceSub, Nat.reduceAdd, ite_true, Option.some_inj, eq_self, isNone, Bool.not_true, Int.reduceEq, decide_true, decide_false, exists_eq_left', exists_eq_left, dl_1, dl_2, eq_nn, ne_nn, rgD_hs, Int.toNat_natCast, List.length_map, cut40]; exact h
  · simp only [↓e_C, ↓e_V, ↓e_Fz, ↓e_Op, ↓e_Un, ↓e_B, ↓e_Chain, ↓e_AndT, ↓e_OrT, ↓e_NotT, ↓e_AndV, ↓e_OrV, ↓e_NotV, ↓e_If, ↓e_Nil, ↓e_Cons, ↓e_Tup, ↓e_Lst, ↓e_CB, ↓e_CBN, ↓e_Isi, ↓e_TupRg1, ↓e_LstRg1, ↓e_TupRg2, ↓e_LstRg2, ↓e_ScrLen, ↓e_ScrAt, ↓e_SeqI, ↓e_Enum, ↓e_Rng1, ↓e_Rng2, ↓e_Seq, ↓e_Next, ↓e_Break, ↓e_Cont, ↓e_Drop, ↓e_Ret, ↓e_RetN, ↓e_Ret0, ↓e_IfS, ↓e_Asg, ↓e_AsgN, ↓e_AsgLc, ↓e_mNil, ↓e_mVal, ↓e_mNew, ↓e_Par, ↓e_For, ↓e_LoopN, ↓e_LoopC, ↓e_Lc, ↓e_Yes, ↓e_Call, ↓e_CallN, ↓e_Append, ↓e_Extend, ↓e_Pop, ↓e_PopAt, ↓e_SetAt, ↓e_Sl, ↓e_NoP, ↓e_P, ↓e_Aug, ↓e_SrtSet, optP_some, vaP_val, boP_val, inP_val, muP_lst, vals_nil, vals_cons, brP_t, brP_f, brP_d, brP_n, scrOf, rg1, rg2, lstAt, lsOf, nt_of, nt_0, nt_1, slotR, slNew, slMu, slOf, setAll, Dl.En.set, Dl.En.wipe, wipeL, noMu_n, noMu_c, isMu_v, isMu_u, isMu_e, isMu_s, tg_nm, Dl.tg_tup, tgs_nil, tgs_cons, fSl, Rv.d, Rv.m, muD, rvDs, obAt, rvOb, obget_s, obget_e, obput_s, obput_e, put_nil, put_one, conv, argOf, argSlot, argExt, obsMu, seqD, env0, argSl, p_mul, p_mod, p_div, p_pow, p_catT, p_catL, p_maxI, p_minI, List.map_cons, List.map_nil, List.replicate_succ, List.replicate_zero, List.length_cons, List.length_nil, List.nil_append, List.cons_append, List.append_nil, List.getElem?_cons_zero, List.getElem?_cons_succ, List.getElem?_nil, List.set_cons_zero, List.set_cons_succ, List.set_nil, Option.bind_some, Option.bind_none, Option.map_some, Option.map_none, Option.some.injEq, Option.isSome_some, List.all_cons, List.all_nil, List.contains_nil, Bool.and_true, Bool.not_false, Bool.true_and, Rv.val.injEq, PyData.int.injEq, PyData.bool.injEq, PyData.tuple.injEq, PyData.list.injEq, and_assoc, Prod.mk.injEq, reduceCtorEq, Mu.lst.injEq, Int.reducePow, Int.reduceNeg, Int.reduceLT, Int.reduceLE, Int.reduceMul, Int.reduceAdd, Int.reduceSub, Int.reduceToNat, Nat.reduceLT, Nat.reduceLeDiff, Nat.zero_le, or_true, true_or, and_self, not_false_eq_true, forall_const, implies_true, if_true_left, false_or, or_false, p_oD, cut2m, List.all_cons, not_true_eq_false, false_implies, isi_bi, isi_bn, isi_bb, isi_bt, isi_bs, isi_ti, isi_tn, isi_tb, isi_tt, isi_ts, isi_si, isi_sn, isi_sb, isi_st, isi_ss, isi_ii, isi_in, isi_ib, isi_it, isi_is, x_add, x_sub, x_neg, x_lt, x_le, x_gt, x_ge, x_eqI, x_neI, x_is, x_isNot, x_ixL, x_ixT, x_int, x_abs, x_lenL, x_lenT, x_tupL, x_tupT, x_lstL, x_lstT, x_max2, x_min2, at0, at1, at2, at3, atNat, x_inT, x_inL, x_notInT, x_notInL, x_all, x_any, x_sumI, x_nilI, x_nnilI, x_nnilJ, x_eqT, x_neT, x_eqO, x_eqOI, isNone_oD, oD_n, oD_s, decide_eq_true_eq, decide_eq_false_iff_not, true_and, and_true, Nat.sub_self, Nat.reduceSub, Nat.reduceAdd, ite_true, Option.some_inj, eq_self, isNone, Bool.not_true, Int.reduceEq, decide_true, decide_false, exists_eq_left', exists_eq_left, dl_1, dl_2, eq_nn, ne_nn, rgD_hs, Int.toNat_natCast, List.length_map, cut40]; exact h
  · simp only [↓e_C, ↓e_V, ↓e_Fz, ↓e_Op, ↓e_Un, ↓e_B, ↓e_Chain, ↓e_AndT, ↓e_OrT, ↓e_NotT, ↓e_AndV, ↓e_OrV, ↓e_NotV, ↓e_If, ↓e_Nil, ↓e_Cons, ↓e_Tup, ↓e_Lst, ↓e_CB, ↓e_CBN, ↓e_Isi, ↓e_TupRg1, ↓e_LstRg1, ↓e_TupRg2, ↓e_LstRg2, ↓e_ScrLen, ↓e_ScrAt, ↓e_SeqI, ↓e_Enum, ↓e_Rng1, ↓e_Rng2, ↓e_Seq, ↓e_Next, ↓e_Break, ↓e_Cont, ↓e_Drop, ↓e_Ret, ↓e_RetN, ↓e_Ret0, ↓e_IfS, ↓e_Asg, ↓e_AsgN, ↓e_AsgLc, ↓e_mNil, ↓e_mVal, ↓e_mNew, ↓e_Par, ↓e_For, ↓e_LoopN, ↓e_LoopC, ↓e_Lc, ↓e_Yes, ↓e_Call, ↓e_CallN, ↓e_Append, ↓e_Extend, ↓e_Pop, ↓e_PopAt, ↓e_SetAt, ↓e_Sl, ↓e_NoP, ↓e_P, ↓e_Aug, ↓e_SrtSet, optP_some, vaP_val, boP_val, inP_val, muP_lst, vals_nil, vals_cons, brP_t, brP_f, brP_d, brP_n, scrOf, rg1, rg2, lstAt, lsOf, nt_of, nt_0, nt_1, slotR, slNew, slMu, slOf, setAll, Dl.En.set, Dl.En.wipe, wipeL, noMu_n, noMu_c, isMu_v, isMu_u, isMu_e, isMu_s, tg_nm, Dl.tg_tup, tgs_nil, tgs_cons, fSl, Rv.d, Rv.m, muD, rvDs, obAt, rvOb, obget_s, obget_e, obput_s, obput_e, put_nil, put_one, conv, argOf, argSlot, argExt, obsMu, seqD, env0, argSl, p_mul, p_mod, p_div, p_pow, p_catT, p_catL, p_maxI, p_minI, List.map_cons, List.map_nil, List.replicate_succ, List.replicate_zero, List.length_cons, List.length_nil, List.nil_append, List.cons_append, List.append_nil, List.getElem?_cons_zero, List.getElem?_cons_succ, List.getElem?_nil, List.set_cons_zero, List.set_cons_succ, List.set_nil, Option.bind_some, Option.bind_none, Option.map_some, Option.map_none, Option.some.injEq, Option.isSome_some, List.all_cons, List.all_nil, List.contains_nil, Bool.and_true, Bool.not_false, Bool.true_and, Rv.val.injEq, PyData.int.injEq, PyData.bool.injEq, PyData.tuple.injEq, PyData.list.injEq, and_assoc, Prod.mk.injEq, reduceCtorEq, Mu.lst.injEq, Int.reducePow, Int.reduceNeg, Int.reduceLT, Int.reduceLE, Int.reduceMul, Int.reduceAdd, Int.reduceSub, Int.reduceToNat, Nat.reduceLT, Nat.reduceLeDiff, Nat.zero_le, or_true, true_or, and_self, not_false_eq_true, forall_const, implies_true, if_true_left, false_or, or_false, p_oD, cut2m, List.all_cons, not_true_eq_false, false_implies, isi_bi, isi_bn, isi_bb, isi_bt, isi_bs, isi_ti, isi_tn, isi_tb, isi_tt, isi_ts, isi_si, isi_sn, isi_sb, isi_st, isi_ss, isi_ii, isi_in, isi_ib, isi_it, isi_is, x_add, x_sub, x_neg, x_lt, x_le, x_gt, x_ge, x_eqI, x_neI, x_is, x_isNot, x_ixL, x_ixT, x_int, x_abs, x_lenL, x_lenT, x_tupL, x_tupT, x_lstL, x_lstT, x_max2, x_min2, at0, at1, at2, at3, atNat, x_inT, x_inL, x_notInT, x_notInL, x_all, x_any, x_sumI, x_nilI, x_nnilI, x_nnilJ, x_eqT, x_neT, x_eqO, x_eqOI, isNone_oD, oD_n, oD_s, decide_eq_true_eq, decide_eq_false_iff_not, true_and, and_true, Nat.sub_self, Nat.reduceSub, Nat.reduceAdd, ite_true, Option.some_inj, eq_self, isNone, Bool.not_true, Int.reduceEq, decide_true, decide_false, exists_eq_left', exists_eq_left, dl_1, dl_2, eq_nn, ne_nn, rgD_hs, Int.toNat_natCast, List.length_map, cut40]
    refine loop_inv (enc := PyData.int) (fun done rest env => ∃ told s13 s14, told.length = holds.length ∧ rest.Nodup ∧ (∀ x ∈ rest, ∃ j : Nat, x = j ∧ told[j]? = some none) ∧ nMu s13 ∧
      env = ⟨[.scr ns, .val (.int k), .mu (.lst [.int g, .int r]), .val (.int m), .val (tF f), .val (.int t), .val (hiD number holds s l), .val (.int number), .val (tI holds), .val (tI s), .val (tI l), .mu (.lst (told.map oD)), .val (oD (newest f told)), s13, s14, s15, s16], []⟩)
      ((s.filter fun x => !l.contains x).take 2) [] _ ?_ ?_ ⟨told, s13, s14, H.len, (hs.1.sublist (List.filter_sublist)).sublist (List.take_sublist _ _), fun x hx => ?_, h13, rfl⟩
    · rintro done x rest env ⟨told, s13, s14, hl, hnd, hsn, q13, rfl⟩
      obtain ⟨j, rfl, hj⟩ := hsn x List.mem_cons_self
      have hjl : j < holds.length := by rw [← hl]; exact (List.getElem?_eq_some_iff.mp hj).1
      obtain ⟨hn1, hn2⟩ := List.nodup_cons.mp hnd
      have hlm := hi.len
      have hfl := hf.few
      refine ⟨_, rfl, fun N hN => ?_⟩
      simp only [↓e_C, ↓e_V, ↓e_Fz, ↓e_Op, ↓e_Un, ↓e_B, ↓e_Chain, ↓e_AndT, ↓e_OrT, ↓e_NotT, ↓e_AndV, ↓e_OrV, ↓e_NotV, ↓e_If, ↓e_Nil, ↓e_Cons, ↓e_Tup, ↓e_Lst, ↓e_CB, ↓e_CBN, ↓e_Isi, ↓e_TupRg1, ↓e_LstRg1, ↓e_TupRg2, ↓e_LstRg2, ↓e_ScrLen, ↓e_ScrAt, ↓e_SeqI, ↓e_Enum, ↓e_Rng1, ↓e_Rng2, ↓e_Seq, ↓e_Next, ↓e_Break, ↓e_Cont, ↓e_Drop, ↓e_Ret, ↓e_RetN, ↓e_Ret0, ↓e_IfS, ↓e_Asg, ↓e_AsgN, ↓e_AsgLc, ↓e_mNil, ↓e_mVal, ↓e_mNew, ↓e_Par, ↓e_For, ↓e_LoopN, ↓e_LoopC, ↓e_Lc, ↓e_Yes, ↓e_Call, ↓e_CallN, ↓e_Append, ↓e_Extend, ↓e_Pop, ↓e_PopAt, ↓e_SetAt, ↓e_Sl, ↓e_NoP, ↓e_P, ↓e_Aug, ↓e_SrtSet, optP_some, vaP_val, boP_val, inP_val, muP_lst, vals_nil, vals_cons, brP_t, brP_f, brP_d, brP_n, scrOf, rg1, rg2, lstAt, lsOf, nt_of, nt_0, nt_1, slotR, slNew, slMu, slOf, setAll, Dl.En.set, Dl.En.wipe, wipeL, noMu_n, noMu_c, isMu_v, isMu_u, isMu_e, isMu_s, tg_nm, Dl.tg_tup, tgs_nil, tgs_cons, fSl, Rv.d, Rv.m, muD, rvDs, obAt, rvOb, obget_s, obget_e, obput_s, obput_e, put_nil, put_one, conv, argOf, argSlot, argExt, obsMu, seqD, env0, argSl, p_mul, p_mod, p_div, p_pow, p_catT, p_catL, p_maxI, p_minI, List.map_cons, List.map_nil, List.replicate_succ, List.replicate_zero, List.length_cons, List.length_nil, List.nil_append, List.cons_append, List.append_nil, List.getElem?_cons_zero, List.getElem?_cons_succ, List.getElem?_nil, List.set_cons_zero, List.set_cons_succ, List.set_nil, Option.bind_some, Option.bind_none, Option.map_some, Option.map_none, Option.some.injEq, Option.isSome_some, List.all_cons, List.all_nil, List.contains_nil, Bool.and_true, Bool.not_false, Bool.true_and, Rv.val.injEq, PyData.int.injEq, PyData.bool.injEq, PyData.tuple.injEq, PyData.list.injEq, and_assoc, Prod.mk.injEq, reduceCtorEq, Mu.lst.injEq, Int.reducePow, Int.reduceNeg, Int.reduceLT, Int.reduceLE, Int.reduceMul, Int.reduceAdd, Int.reduceSub, Int.reduceToNat, Nat.reduceLT, Nat.reduceLeDiff, Nat.zero_le, or_true, true_or, and_self, not_false_eq_true, forall_const, implies_true, if_true_left, false_or, or_false, p_oD, cut2m, List.all_cons, not_true_eq_false, false_implies, isi_bi, isi_bn, isi_bb, isi_bt, isi_bs, isi_ti, isi_tn, isi_tb, isi_tt, isi_ts, isi_si, isi_sn, isi_sb, isi_st, isi_ss, isi_ii, isi_in, isi_ib, isi_it, isi_is, x_add, x_sub, x_neg, x_lt, x_le, x_gt, x_ge, x_eqI, x_neI, x_is, x_isNot, x_ixL, x_ixT, x_int, x_abs, x_lenL, x_lenT, x_tupL, x_tupT, x_lstL, x_lstT, x_max2, x_min2, at0, at1, at2, at3, atNat, x_inT, x_inL, x_notInT, x_notInL, x_all, x_any, x_sumI, x_nilI, x_nnilI, x_nnilJ, x_eqT, x_neT, x_eqO, x_eqOI, isNone_oD, oD_n, oD_s, decide_eq_true_eq, decide_eq_false_iff_not, true_and, and_true, Nat.sub_self, Nat.reduceSub, Nat.reduceAdd, ite_true, Option.some_inj, eq_self, isNone, Bool.not_true, Int.reduceEq, decide_true, decide_false, exists_eq_left', exists_eq_left, dl_1, dl_2, eq_nn, ne_nn, rgD_hs, Int.toNat_natCast, List.length_map, cut40]
      refine optP_i (a := PyData.int holds[j]) (by rw [List.getElem?_map, List.getElem?_eq_getElem hjl]; rfl) ?_
      refine ⟨by omega, ?_⟩
      have e : (told.map oD).set j (PyData.int holds[j]) = (told.set j (some holds[j])).map oD := by rw [List.map_set]; rfl
      rw [e]
      refine ⟨f, told.set j (some holds[j]), rfl, by omega, by rw [List.length_set]; omega, ?_⟩
      simp only [↓e_C, ↓e_V, ↓e_Fz, ↓e_Op, ↓e_Un, ↓e_B, ↓e_Chain, ↓e_AndT, ↓e_OrT, ↓e_NotT, ↓e_AndV, ↓e_OrV, ↓e_NotV, ↓e_If, ↓e_Nil, ↓e_Cons, ↓e_Tup, ↓e_Lst, ↓e_CB, ↓e_CBN, ↓e_Isi, ↓e_TupRg1, ↓e_LstRg1, ↓e_TupRg2, ↓e_LstRg2, ↓e_ScrLen, ↓e_ScrAt, ↓e_SeqI, ↓e_Enum, ↓e_Rng1, ↓e_Rng2, ↓e_Seq, ↓e_Next, ↓e_Break, ↓e_Cont, ↓e_Drop, ↓e_Ret, ↓e_RetN, ↓e_Ret0, ↓e_IfS, ↓e_Asg, ↓e_AsgN, ↓e_AsgLc, ↓e_mNil, ↓e_mVal, ↓e_mNew, ↓e_Par, ↓e_For, ↓e_LoopN, ↓e_LoopC, ↓e_Lc, ↓e_Yes, ↓e_Call, ↓e_CallN, ↓e_Append, ↓e_Extend, ↓e_Pop, ↓e_PopAt, ↓e_SetAt, ↓e_Sl, ↓e_NoP, ↓e_P, ↓e_Aug, ↓e_SrtSet, optP_some, vaP_val, boP_val, inP_val, muP_lst, vals_nil, vals_cons, brP_t, brP_f, brP_d, brP_n, scrOf, rg1, rg2, lstAt, lsOf, nt_of, nt_0, nt_1, slotR, slNew, slMu, slOf, setAll, Dl.En.set, Dl.En.wipe, wipeL, noMu_n, noMu_c, isMu_v, isMu_u, isMu_e, isMu_s, tg_nm, Dl.tg_tup, tgs_nil, tgs_cons, fSl, Rv.d, Rv.m, muD, rvDs, obAt, rvOb, obget_s, obget_e, obput_s, obput_e, put_nil, put_one, conv, argOf, argSlot, argExt, obsMu, seqD, env0, argSl, p_mul, p_mod, p_div, p_pow, p_catT, p_catL, p_maxI, p_minI, List.map_cons, List.map_nil, List.replicate_succ, List.replicate_zero, List.length_cons, List.length_nil, List.nil_append, List.cons_append, List.append_nil, List.getElem?_cons_zero, List.getElem?_cons_succ, List.getElem?_nil, List.set_cons_zero, List.set_cons_succ, List.set_nil, Option.bind_some, Option.bind_none, Option.map_some, Option.map_none, Option.some.injEq, Option.isSome_some, List.all_cons, List.all_nil, List.contains_nil, Bool.and_true, Bool.not_false, Bool.true_and, Rv.val.injEq, PyData.int.injEq, PyData.bool.injEq, PyData.tuple.injEq, PyData.list.injEq, and_assoc, Prod.mk.injEq, reduceCtorEq, Mu.lst.injEq, Int.reducePow, Int.reduceNeg, Int.reduceLT, Int.reduceLE, Int.reduceMul, Int.reduceAdd, Int.reduceSub, Int.reduceToNat, Nat.reduceLT, Nat.reduceLeDiff, Nat.zero_le, or_true, true_or, and_self, not_false_eq_true, forall_const, implies_true, if_true_left, false_or, or_false, p_oD, cut2m, List.all_cons, not_true_eq_false, false_implies, isi_bi, isi_bn, isi_bb, isi_bt, isi_bs, isi_ti, isi_tn, isi_tb, isi_tt, isi_ts, isi_si, isi_sn, isi_sb, isi_st, isi_ss, isi_ii, isi_in, isi_ib, isi_it, isi_is, x_add, x_sub, x_neg, x_lt, x_le, x_gt, x_ge, x_eqI, x_neI, x_is, x_isNot, x_ixL, x_ixT, x_int, x_abs, x_lenL, x_lenT, x_tupL, x_tupT, x_lstL, x_lstT, x_max2, x_min2, at0, at1, at2, at3, atNat, x_inT, x_inL, x_notInT, x_notInL, x_all, x_any, x_sumI, x_nilI, x_nnilI, x_nnilJ, x_eqT, x_neT, x_eqO, x_eqOI, isNone_oD, oD_n, oD_s, decide_eq_true_eq, decide_eq_false_iff_not, true_and, and_true, Nat.sub_self, Nat.reduceSub, Nat.reduceAdd, ite_true, Option.some_inj, eq_self, isNone, Bool.not_true, Int.reduceEq, decide_true, decide_false, exists_eq_left', exists_eq_left, dl_1, dl_2, eq_nn, ne_nn, rgD_hs, Int.toNat_natCast, List.length_map, cut40]
      have nxt := hN _ ⟨told.set j (some holds[j]), .val (.int j), .val (oD (newest f (told.set j (some holds[j])))), by rw [List.length_set]; exact hl, hn2, fun y hy => by
        obtain ⟨i, rfl, hi'⟩ := hsn y (List.mem_cons_of_mem _ hy)
        have hne : j ≠ i := fun e => hn1 (by rw [e]; exact hy)
        exact ⟨i, rfl, by rw [List.getElem?_set_ne hne]; exact hi'⟩, trivial, rfl⟩
      cases h : newest f told with
      | none => simp only [↓e_C, ↓e_V, ↓e_Fz, ↓e_Op, ↓e_Un, ↓e_B, ↓e_Chain, ↓e_AndT, ↓e_OrT, ↓e_NotT, ↓e_AndV, ↓e_OrV, ↓e_NotV, ↓e_If, ↓e_Nil, ↓e_Cons, ↓e_Tup, ↓e_Lst, ↓e_CB, ↓e_CBN, ↓e_Isi, ↓e_TupRg1, ↓e_LstRg1, ↓e_TupRg2, ↓e_LstRg2, ↓e_ScrLen, ↓e_ScrAt, ↓e_SeqI, ↓e_Enum, ↓e_Rng1, ↓e_Rng2, ↓e_Seq, ↓e_Next, ↓e_Break, ↓e_Cont, ↓e_Drop, ↓e_Ret, ↓e_RetN, ↓e_Ret0, ↓e_IfS, ↓e_Asg, ↓e_AsgN, ↓e_AsgLc, ↓e_mNil, ↓e_mVal, ↓e_mNew, ↓e_Par, ↓e_For, ↓e_LoopN, ↓e_LoopC, ↓e_Lc, ↓e_Yes, ↓e_Call, ↓e_CallN, ↓e_Append, ↓e_Extend, ↓e_Pop, ↓e_PopAt, ↓e_SetAt, ↓e_Sl, ↓e_NoP, ↓e_P, ↓e_Aug, ↓e_SrtSet, optP_some, vaP_val, boP_val, inP_val, muP_lst, vals_nil, vals_cons, brP_t, brP_f, brP_d, brP_n, scrOf, rg1, rg2, lstAt, lsOf, nt_of, nt_0, nt_1, slotR, slNew, slMu, slOf, setAll, Dl.En.set, Dl.En.wipe, wipeL, noMu_n, noMu_c, isMu_v, isMu_u, isMu_e, isMu_s, tg_nm, Dl.tg_tup, tgs_nil, tgs_cons, fSl, Rv.d, Rv.m, muD, rvDs, obAt, rvOb, obget_s, obget_e, obput_s, obput_e, put_nil, put_one, conv, argOf, argSlot, argExt, obsMu, seqD, env0, argSl, p_mul, p_mod, p_div, p_pow, p_catT, p_catL, p_maxI, p_minI, List.map_cons, List.map_nil, List.replicate_succ, List.replicate_zero, List.length_cons, List.length_nil, List.nil_append, List.cons_append, List.append_nil, List.getElem?_cons_zero, List.getElem?_cons_succ, List.getElem?_nil, List.set_cons_zero, List.set_cons_succ, List.set_nil, Option.bind_some, Option.bind_none, Option.map_some, Option.map_none, Option.some.injEq, Option.isSome_some, List.all_cons, List.all_nil, List.contains_nil, Bool.and_true, Bool.not_false, Bool.true_and, Rv.val.injEq, PyData.int.injEq, PyData.bool.injEq, PyData.tuple.injEq, PyData.list.injEq, and_assoc, Prod.mk.injEq, reduceCtorEq, Mu.lst.injEq, Int.reducePow, Int.reduceNeg, Int.reduceLT, Int.reduceLE, Int.reduceMul, Int.reduceAdd, Int.reduceSub, Int.reduceToNat, Nat.reduceLT, Nat.reduceLeDiff, Nat.zero_le, or_true, true_or, and_self, not_false_eq_true, forall_const, implies_true, if_true_left, false_or, or_false, p_oD, cut2m, List.all_cons, not_true_eq_false, false_implies, isi_bi, isi_bn, isi_bb, isi_bt, isi_bs, isi_ti, isi_tn, isi_tb, isi_tt, isi_ts, isi_si, isi_sn, isi_sb, isi_st, isi_ss, isi_ii, isi_in, isi_ib, isi_it, isi_is, x_add, x_sub, x_neg, x_lt, x_le, x_gt, x_ge, x_eqI, x_neI, x_is, x_isNot, x_ixL, x_ixT, x_int, x_abs, x_lenL, x_lenT, x_tupL, x_tupT, x_lstL, x_lstT, x_max2, x_min2, at0, at1, at2, at3, atNat, x_inT, x_inL, x_notInT, x_notInL, x_all, x_any, x_sumI, x_nilI, x_nnilI, x_nnilJ, x_eqT, x_neT, x_eqO, x_eqOI, isNone_oD, oD_n, oD_s, decide_eq_true_eq, decide_eq_false_iff_not, true_and, and_true, Nat.sub_self, Nat.reduceSub, Nat.reduceAdd, ite_true, Option.some_inj, eq_self, isNone, Bool.not_true, Int.reduceEq, decide_true, decide_false, exists_eq_left', exists_eq_left, dl_1, dl_2, eq_nn, ne_nn, rgD_hs, Int.toNat_natCast, List.length_map, cut40]; exact nxt
      | some n =>
        obtain ⟨n', h1, h2⟩ := newest_more (v := holds[j]) hj h
        rw [h1] at nxt ⊢
        simp only [↓e_C, ↓e_V, ↓e_Fz, ↓e_Op, ↓e_Un, ↓e_B, ↓e_Chain, ↓e_AndT, ↓e_OrT, ↓e_NotT, ↓e_AndV, ↓e_OrV, ↓e_NotV, ↓e_If, ↓e_Nil, ↓e_Cons, ↓e_Tup, ↓e_Lst, ↓e_CB, ↓e_CBN, ↓e_Isi, ↓e_TupRg1, ↓e_LstRg1, ↓e_TupRg2, ↓e_LstRg2, ↓e_ScrLen, ↓e_ScrAt, ↓e_SeqI, ↓e_Enum, ↓e_Rng1, ↓e_Rng2, ↓e_Seq, ↓e_Next, ↓e_Break, ↓e_Cont, ↓e_Drop, ↓e_Ret, ↓e_RetN, ↓e_Ret0, ↓e_IfS, ↓e_Asg, ↓e_AsgN, ↓e_AsgLc, ↓e_mNil, ↓e_mVal, ↓e_mNew, ↓e_Par, ↓e_For, ↓e_LoopN, ↓e_LoopC, ↓e_Lc, ↓e_Yes, ↓e_Call, ↓e_CallN, ↓e_Append, ↓e_Extend, ↓e_Pop, ↓e_PopAt, ↓e_SetAt, ↓e_Sl, ↓e_NoP, ↓e_P, ↓e_Aug, ↓e_SrtSet, optP_some, vaP_val, boP_val, inP_val, muP_lst, vals_nil, vals_cons, brP_t, brP_f, brP_d, brP_n, scrOf, rg1, rg2, lstAt, lsOf, nt_of, nt_0, nt_1, slotR, slNew, slMu, slOf, setAll, Dl.En.set, Dl.En.wipe, wipeL, noMu_n, noMu_c, isMu_v, isMu_u, isMu_e, isMu_s, tg_nm, Dl.tg_tup, tgs_nil, tgs_cons, fSl, Rv.d, Rv.m, muD, rvDs, obAt, rvOb, obget_s, obget_e, obput_s, obput_e, put_nil, put_one, conv, argOf, argSlot, argExt, obsMu, seqD, env0, argSl, p_mul, p_mod, p_div, p_pow, p_catT, p_catL, p_maxI, p_minI, List.map_cons, List.map_nil, List.replicate_succ, List.replicate_zero, List.length_cons, List.length_nil, List.nil_append, List.cons_append, List.append_nil, List.getElem?_cons_zero, List.getElem?_cons_succ, List.getElem?_nil, List.set_cons_zero, List.set_cons_succ, List.set_nil, Option.bind_some, Option.bind_none, Option.map_some, Option.map_none, Option.some.injEq, Option.isSome_some, List.all_cons, List.all_nil, List.contains_nil, Bool.and_true, Bool.not_false, Bool.true_and, Rv.val.injEq, PyData.int.injEq, PyData.bool.injEq, PyData.tuple.injEq, PyData.list.injEq, and_assoc, Prod.mk.injEq, reduceCtorEq, Mu.lst.injEq, Int.reducePow, Int.reduceNeg, Int.reduceLT, Int.reduceLE, Int.reduceMul, Int.reduceAdd, Int.reduceSub, Int.reduceToNat, Nat.reduceLT, Nat.reduceLeDiff, Nat.zero_le, or_true, true_or, and_self, not_false_eq_true, forall_const, implies_true, if_true_left, false_or, or_false, p_oD, cut2m, List.all_cons, not_true_eq_false, false_implies, isi_bi, isi_bn, isi_bb, isi_bt, isi_bs, isi_ti, isi_tn, isi_tb, isi_tt, isi_ts, isi_si, isi_sn, isi_sb, isi_st, isi_ss, isi_ii, isi_in, isi_ib, isi_it, isi_is, x_add, x_sub, x_neg, x_lt, x_le, x_gt, x_ge, x_eqI, x_neI, x_is, x_isNot, x_ixL, x_ixT, x_int, x_abs, x_lenL, x_lenT, x_tupL, x_tupT, x_lstL, x_lstT, x_max2, x_min2, at0, at1, at2, at3, atNat, x_inT, x_inL, x_notInT, x_notInL, x_all, x_any, x_sumI, x_nilI, x_nnilI, x_nnilJ, x_eqT, x_neT, x_eqO, x_eqOI, isNone_oD, oD_n, oD_s, decide_eq_true_eq, decide_eq_false_iff_not, true_and, and_true, Nat.sub_self, Nat.reduceSub, Nat.reduceAdd, ite_true, Option.some_inj, eq_self, isNone, Bool.not_true, Int.reduceEq, decide_true, decide_false, exists_eq_left', exists_eq_left, dl_1, dl_2, eq_nn, ne_nn, rgD_hs, Int.toNat_natCast, List.length_map, cut40]
        exact ⟨fun z => by omega, fun _ => nxt⟩
    · rintro done env ⟨told, s13, s14, hl, hnd, hsn, q13, rfl⟩
      exact c4_ok hi hm fun g r s15 => hN _ _ _ _ _ _ _ q13
    · have hx' := List.mem_of_mem_take hx
      have hxs := (List.mem_filter.mp hx').1
      obtain ⟨a, ha, h⟩ := hi.s
      have hxm := hs_mem.mp ((hf.sub a ha).subset (h.subset hxs))
      refine ⟨x.toNat, by omega, H.sn _ ?_⟩
      have : ((x.toNat : Nat) : Int) = x := by omega
      rw [this]; exact hxs
theorem c2_ok (hi : HiOk m f number holds s l) (hf : LiOk m f) (hm : m ≤ 12) (H : Hon holds s l told) (h13 : nMu s13) (h16 : nMu s16) (hN : ∀ g r ts s12 s13 s14 s15, nMu s13 → De.nx (lawE ns k g r m f t number holds s l ts s12 s13 s14 s15 s16)) :
    r_law_c2 De (lawE ns k g r m f t number holds s l (.mu (.lst (told.map oD))) s12 s13 s14 s15 s16) := by
  have hlm := hi.len
  have hlen := H.len
  have hfl := hf.few
  have c3 := fun s13 h13 => c3_ok (t := t) (k := k) (ns := ns) (g := g) (r := r) (s13 := s13) (s14 := s14) (s15 := s15) (s16 := s16) (De := De) hi hf hm H h13 h16 hN
  unfold r_law_c2
  unfold lawE at c3 ⊢
  simp only [↓e_C, ↓e_V, ↓e_Fz, ↓e_Op, ↓e_Un, ↓e_B, ↓e_Chain, ↓e_AndT, ↓e_OrT, ↓e_NotT, ↓e_AndV, ↓e_OrV, ↓e_NotV, ↓e_If, ↓e_Nil, ↓e_Cons, ↓e_Tup, ↓e_Lst, ↓e_CB, ↓e_CBN, ↓e_Isi, ↓e_TupRg1, ↓e_LstRg1, ↓e_TupRg2, ↓e_LstRg2, ↓e_ScrLen, ↓e_ScrAt, ↓e_SeqI, ↓e_Enum, ↓e_Rng1, ↓e_Rng2, ↓e_Seq, ↓e_Next, ↓e_Break, ↓e_Cont, ↓e_Drop, ↓e_Ret, ↓e_RetN, ↓e_Ret0, ↓e_IfS, ↓e_Asg, ↓e_AsgN, ↓e_AsgLc, ↓e_mNil, ↓e_mVal, ↓e_mNew, ↓e_Par, ↓e_For, ↓e_LoopN, ↓e_LoopC, ↓e_Lc, ↓e_Yes, ↓e_Call, ↓e_CallN, ↓e_Append, ↓e_Extend, ↓e_Pop, ↓e_PopAt, ↓e_SetAt, ↓e_Sl, ↓e_NoP, ↓e_P, ↓e_Aug, ↓e_SrtSet, optP_some, vaP_val, boP_val, inP_val, muP_lst, vals_nil, vals_cons, brP_t, brP_f, brP_d, brP_n, scrOf, rg1, rg2, lstAt, lsOf, nt_of, nt_0, nt_1, slotR, slNew, slMu, slOf, setAll, Dl.En.set, Dl.En.wipe, wipeL, noMu_n, noMu_c, isMu_v, isMu_u, isMu_e, isMu_s, tg_nm, Dl.tg_tup, tgs_nil, tgs_cons, fSl, Rv.d, Rv.m, muD, rvDs, obAt, rvOb, obget_s, obget_e, obput_s, obput_e, put_nil, put_one, conv, argOf, argSlot, argExt, obsMu, seqD, env0, argSl, p_mul, p_mod, p_div, p_pow, p_catT, p_catL, p_maxI, p_minI, List.map_cons, List.map_nil, List.replicate_succ, List.replicate_zero, List.length_cons, List.length_nil, List.nil_append, List.cons_append, List.append_nil, List.getElem?_cons_zero, List.getElem?_cons_succ, List.getElem?_nil, List.set_cons_zero, List.set_cons_succ, List.set_nil, Option.bind_some, Option.bind_none, Option.map_some, Option.map_none, Option.some.injEq, Option.isSome_some, List.all_cons, List.all_nil, List.contains_nil, Bool.and_true, Bool.not_false, Bool.true_and, Rv.val.injEq, PyData.int.injEq, PyData.bool.injEq, PyData.tuple.injEq, PyData.list.injEq, and_assoc, Prod.mk.injEq, reduceCtorEq, Mu.lst.injEq, Int.reducePow, Int.reduceNeg, Int.reduceLT, Int.reduceLE, Int.reduceMul, Int.reduceAdd, Int.reduceSub, Int.reduceToNat, Nat.reduceLT, Nat.reduceLeDiff, Nat.zero_le, or_true, true_or, and_self, not_false_eq_true, forall_const, implies_true, if_true_left, false_or, or_false, p_oD, cut2m, List.all_cons, not_true_eq_false, false_implies, isi_bi, isi_bn, isi_bb, isi_bt, isi_bs, isi_ti, isi_tn, isi_tb, isi_tt, isi_ts, isi_si, isi_sn, isi_sb, isi_st, isi_ss, isi_ii, isi_in, isi_ib, isi_it, isi_is, x_add, x_sub, x_neg, x_lt, x_le, x_gt, x_ge, x_eqI, x_neI, x_is, x_isNot, x_ixL, x_ixT, x_int, x_abs, x_lenL, x_lenT, x_tupL, x_tupT, x_lstL, x_lstT, x_max2, x_min2, at0, at1, at2, at3, atNat, x_inT, x_inL, x_notInT, x_notInL, x_all, x_any, x_sumI, x_nilI, x_nnilI, x_nnilJ, x_eqT, x_neT, x_eqO, x_eqOI, isNone_oD, oD_n, oD_s, decide_eq_true_eq, decide_eq_false_iff_not, true_and, and_true, Nat.sub_self, Nat.reduceSub, Nat.reduceAdd, ite_true, Option.some_inj, eq_self, isNone, Bool.not_true, Int.reduceEq, decide_true, decide_false, exists_eq_left', exists_eq_left, dl_1, dl_2, eq_nn, ne_nn, rgD_hs, Int.toNat_natCast, List.length_map, cut40]
  refine ⟨f, told, rfl, by omega, by omega, ?_⟩
  simp only [↓e_C, ↓e_V, ↓e_Fz, ↓e_Op, ↓e_Un, ↓e_B, ↓e_Chain, ↓e_AndT, ↓e_OrT, ↓e_NotT, ↓e_AndV, ↓e_OrV, ↓e_NotV, ↓e_If, ↓e_Nil, ↓e_Cons, ↓e_Tup, ↓e_Lst, ↓e_CB, ↓e_CBN, ↓e_Isi, ↓e_TupRg1, ↓e_LstRg1, ↓e_TupRg2, ↓e_LstRg2, ↓e_ScrLen, ↓e_ScrAt, ↓e_SeqI, ↓e_Enum, ↓e_Rng1, ↓e_Rng2, ↓e_Seq, ↓e_Next, ↓e_Break, ↓e_Cont, ↓e_Drop, ↓e_Ret, ↓e_RetN, ↓e_Ret0, ↓e_IfS, ↓e_Asg, ↓e_AsgN, ↓e_AsgLc, ↓e_mNil, ↓e_mVal, ↓e_mNew, ↓e_Par, ↓e_For, ↓e_LoopN, ↓e_LoopC, ↓e_Lc, ↓e_Yes, ↓e_Call, ↓e_CallN, ↓e_Append, ↓e_Extend, ↓e_Pop, ↓e_PopAt, ↓e_SetAt, ↓e_Sl, ↓e_NoP, ↓e_P, ↓e_Aug, ↓e_SrtSet, optP_some, vaP_val, boP_val, inP_val, muP_lst, vals_nil, vals_cons, brP_t, brP_f, brP_d, brP_n, scrOf, rg1, rg2, lstAt, lsOf, nt_of, nt_0, nt_1, slotR, slNew, slMu, slOf, setAll, Dl.En.set, Dl.En.wipe, wipeL, noMu_n, noMu_c, isMu_v, isMu_u, isMu_e, isMu_s, tg_nm, Dl.tg_tup, tgs_nil, tgs_cons, fSl, Rv.d, Rv.m, muD, rvDs, obAt, rvOb, obget_s, obget_e, obput_s, obput_e, put_nil, put_one, conv, argOf, argSlot, argExt, obsMu, seqD, env0, argSl, p_mul, p_mod, p_div, p_pow, p_catT, p_catL, p_maxI, p_minI, List.map_cons, List.map_nil, List.replicate_succ, List.replicate_zero, List.length_cons, List.length_nil, List.nil_append, List.cons_append, List.append_nil, List.getElem?_cons_zero, List.getElem?_cons_succ, List.getElem?_nil, List.set_cons_zero, List.set_cons_succ, List.set_nil, Option.bind_some, Option.bind_none, Option.map_some, Option.map_none, Option.some.injEq, Option.isSome_some, List.all_cons, List.all_nil, List.contains_nil, Bool.and_true, Bool.not_false, Bool.true_and, Rv.val.injEq, PyData.int.injEq, PyData.bool.injEq, PyData.tuple.injEq, PyData.list.injEq, and_assoc, Prod.mk.injEq, reduceCtorEq, Mu.lst.injEq, Int.reducePow, Int.reduceNeg, Int.reduceLT, Int.reduceLE, Int.reduceMul, Int.reduceAdd, Int.reduceSub, Int.reduceToNat, Nat.reduceLT, Nat.reduceLeDiff, Nat.zero_le, or_true, true_or, and_self, not_false_eq_true, forall_const, implies_true, if_true_left, false_or, or_false, p_oD, cut2m, List.all_cons, not_true_eq_false, false_implies, isi_bi, isi_bn, isi_bb, isi_bt, isi_bs, isi_ti, isi_tn, isi_tb, isi_tt, isi_ts, isi_si, isi_sn, isi_sb, isi_st, isi_ss, isi_ii, isi_in, isi_ib, isi_it, isi_is, x_add, x_sub, x_neg, x_lt, x_le, x_gt, x_ge, x_eqI, x_neI, x_is, x_isNot, x_ixL, x_ixT, x_int, x_abs, x_lenL, x_lenT, x_tupL, x_tupT, x_lstL, x_lstT, x_max2, x_min2, at0, at1, at2, at3, atNat, x_inT, x_inL, x_notInT, x_notInL, x_all, x_any, x_sumI, x_nilI, x_nnilI, x_nnilJ, x_eqT, x_neT, x_eqO, x_eqOI, isNone_oD, oD_n, oD_s, decide_eq_true_eq, decide_eq_false_iff_not, true_and, and_true, Nat.sub_self, Nat.reduceSub, Nat.reduceAdd, ite_true, Option.some_inj, eq_self, isNone, Bool.not_true, Int.reduceEq, decide_true, decide_false, exists_eq_left', exists_eq_left, dl_1, dl_2, eq_nn, ne_nn, rgD_hs, Int.toNat_natCast, List.length_map, cut40]
  refine ⟨f, told, rfl, by omega, by omega, ?_⟩
  simp only [↓e_C, ↓e_V, ↓e_Fz, ↓e_Op, ↓e_Un, ↓e_B, ↓e_Chain, ↓e_AndT, ↓e_OrT, ↓e_NotT, ↓e_AndV, ↓e_OrV, ↓e_NotV, ↓e_If, ↓e_Nil, ↓e_Cons, ↓e_Tup, ↓e_Lst, ↓e_CB, ↓e_CBN, ↓e_Isi, ↓e_TupRg1, ↓e_LstRg1, ↓e_TupRg2, ↓e_LstRg2, ↓e_ScrLen, ↓e_ScrAt, ↓e_SeqI, ↓e_Enum, ↓e_Rng1, ↓e_Rng2, ↓e_Seq, ↓e_Next, ↓e_Break, ↓e_Cont, ↓e_Drop, ↓e_Ret, ↓e_RetN, ↓e_Ret0, ↓e_IfS, ↓e_Asg, ↓e_AsgN, ↓e_AsgLc, ↓e_mNil, ↓e_mVal, ↓e_mNew, ↓e_Par, ↓e_For, ↓e_LoopN, ↓e_LoopC, ↓e_Lc, ↓e_Yes, ↓e_Call, ↓e_CallN, ↓e_Append, ↓e_Extend, ↓e_Pop, ↓e_PopAt, ↓e_SetAt, ↓e_Sl, ↓e_NoP, ↓e_P, ↓e_Aug, ↓e_SrtSet, optP_some, vaP_val, boP_val, inP_val, muP_lst, vals_nil, vals_cons, brP_t, brP_f, brP_d, brP_n, scrOf, rg1, rg2, lstAt, lsOf, nt_of, nt_0, nt_1, slotR, slNew, slMu, slOf, setAll, Dl.En.set, Dl.En.wipe, wipeL, noMu_n, noMu_c, isMu_v, isMu_u, isMu_e, isMu_s, tg_nm, Dl.tg_tup, tgs_nil, tgs_cons, fSl, Rv.d, Rv.m, muD, rvDs, obAt, rvOb, obget_s, obget_e, obput_s, obput_e, put_nil, put_one, conv, argOf, argSlot, argExt, obsMu, seqD, env0, argSl, p_mul, p_mod, p_div, p_pow, p_catT, p_catL, p_maxI, p_minI, List.map_cons, List.map_nil, List.replicate_succ, List.replicate_zero, List.length_cons, List.length_nil, List.nil_append, List.cons_append, List.append_nil, List.getElem?_cons_zero, List.getElem?_cons_succ, List.getElem?_nil, List.set_cons_zero, List.set_cons_succ, List.set_nil, Option.bind_some, Option.bind_none, Option.map_some, Option.map_none, Option.some.injEq, Option.isSome_some, List.all_cons, List.all_nil, List.contains_nil, Bool.and_true, Bool.not_false, Bool.true_and, Rv.val.injEq, PyData.int.injEq, PyData.bool.injEq, PyData.tuple.injEq, PyData.list.injEq, and_assoc, Prod.mk.injEq, reduceCtorEq, Mu.lst.injEq, Int.reducePow, Int.reduceNeg, Int.reduceLT, Int.reduceLE, Int.reduceMul, Int.reduceAdd, Int.reduceSub, Int.reduceToNat, Nat.reduceLT, Nat.reduceLeDiff, Nat.zero_le, or_true, true_or, and_self, not_false_eq_true, forall_const, implies_true, if_true_left, false_or, or_false, p_oD, cut2m, List.all_cons, not_true_eq_false, false_implies, isi_bi, isi_bn, isi_bb, isi_bt, isi_bs, isi_ti, isi_tn, isi_tb, isi_tt, isi_ts, isi_si, isi_sn, isi_sb, isi_st, isi_ss, isi_ii, isi_in, isi_ib, isi_it, isi_is, x_add, x_sub, x_neg, x_lt, x_le, x_gt, x_ge, x_eqI, x_neI, x_is, x_isNot, x_ixL, x_ixT, x_int, x_abs, x_lenL, x_lenT, x_tupL, x_tupT, x_lstL, x_lstT, x_max2, x_min2, at0, at1, at2, at3, atNat, x_inT, x_inL, x_notInT, x_notInL, x_all, x_any, x_sumI, x_nilI, x_nnilI, x_nnilJ, x_eqT, x_neT, x_eqO, x_eqOI, isNone_oD, oD_n, oD_s, decide_eq_true_eq, decide_eq_false_iff_not, true_and, and_true, Nat.sub_self, Nat.reduceSub, Nat.reduceAdd, ite_true, Option.some_inj, eq_self, isNone, Bool.not_true, Int.reduceEq, decide_true, decide_false, exists_eq_left', exists_eq_left, dl_1, dl_2, eq_nn, ne_nn, rgD_hs, Int.toNat_natCast, List.length_map, cut40]
  refine ⟨_, _, rfl, ?_⟩
  simp only [↓e_C, ↓e_V, ↓e_Fz, ↓e_Op, ↓e_Un, ↓e_B, ↓e_Chain, ↓e_AndT, ↓e_OrT, ↓e_NotT, ↓e_AndV, ↓e_OrV, ↓e_NotV, ↓e_If, ↓e_Nil, ↓e_Cons, ↓e_Tup, ↓e_Lst, ↓e_CB, ↓e_CBN, ↓e_Isi, ↓e_TupRg1, ↓e_LstRg1, ↓e_TupRg2, ↓e_LstRg2, ↓e_ScrLen, ↓e_ScrAt, ↓e_SeqI, ↓e_Enum, ↓e_Rng1, ↓e_Rng2, ↓e_Seq, ↓e_Next, ↓e_Break, ↓e_Cont, ↓e_Drop, ↓e_Ret, ↓e_RetN, ↓e_Ret0, ↓e_IfS, ↓e_Asg, ↓e_AsgN, ↓e_AsgLc, ↓e_mNil, ↓e_mVal, ↓e_mNew, ↓e_Par, ↓e_For, ↓e_LoopN, ↓e_LoopC, ↓e_Lc, ↓e_Yes, ↓e_Call, ↓e_CallN, ↓e_Append, ↓e_Extend, ↓e_Pop, ↓e_PopAt, ↓e_SetAt, ↓e_Sl, ↓e_NoP, ↓e_P, ↓e_Aug, ↓e_SrtSet, optP_some, vaP_val, boP_val, inP_val, muP_lst, vals_nil, vals_cons, brP_t, brP_f, brP_d, brP_n, scrOf, rg1, rg2, lstAt, lsOf, nt_of, nt_0, nt_1, slotR, slNew, slMu, slOf, setAll, Dl.En.set, Dl.En.wipe, wipeL, noMu_n, noMu_c, isMu_v, isMu_u, isMu_e, isMu_s, tg_nm, Dl.tg_tup, tgs_nil, tgs_cons, fSl, Rv.d, Rv.m, muD, rvDs, obAt, rvOb, obget_s, obget_e, obput_s, obput_e, put_nil, put_one, conv, argOf, argSlot, argExt, obsMu, seqD, env0, argSl, p_mul, p_mod, p_div, p_pow, p_catT, p_catL, p_maxI, p_minI, List.map_cons, List.map_nil, List.replicate_succ, List.replicate_zero, List.length_cons, List.length_nil, List.nil_append, List.cons_append, List.append_nil, List.getElem?_cons_zero, List.getElem?_cons_succ, List.getElem?_nil, List.set_cons_zero, List.set_cons_succ, List.set_nil, Option.bind_some, Option.bind_none, Option.map_some, Option.map_none, Option.some.injEq, Option.isSome_some, List.all_cons, List.all_nil, List.contains_nil, Bool.and_true, Bool.not_false, Bool.true_and, Rv.val.injEq, PyData.int.injEq, PyData.bool.injEq, PyData.tuple.injEq, PyData.list.injEq, and_assoc, Prod.mk.injEq, reduceCtorEq, Mu.lst.injEq, Int.reducePow, Int.reduceNeg, Int.reduceLT, Int.reduceLE, Int.reduceMul, Int.reduceAdd, Int.reduceSub, Int.reduceToNat, Nat.reduceLT, Nat.reduceLeDiff, Nat.zero_le, or_true, true_or, and_self, not_false_eq_true, forall_const, implies_true, if_true_left, false_or, or_false, p_oD, cut2m, List.all_cons, not_true_eq_false, false_implies, isi_bi, isi_bn, isi_bb, isi_bt, isi_bs, isi_ti, isi_tn, isi_tb, isi_tt, isi_ts, isi_si, isi_sn, isi_sb, isi_st, isi_ss, isi_ii, isi_in, isi_ib, isi_it, isi_is, x_add, x_sub, x_neg, x_lt, x_le, x_gt, x_ge, x_eqI, x_neI, x_is, x_isNot, x_ixL, x_ixT, x_int, x_abs, x_lenL, x_lenT, x_tupL, x_tupT, x_lstL, x_lstT, x_max2, x_min2, at0, at1, at2, at3, atNat, x_inT, x_inL, x_notInT, x_notInL, x_all, x_any, x_sumI, x_nilI, x_nnilI, x_nnilJ, x_eqT, x_neT, x_eqO, x_eqOI, isNone_oD, oD_n, oD_s, decide_eq_true_eq, decide_eq_false_iff_not, true_and, and_true, Nat.sub_self, Nat.reduceSub, Nat.reduceAdd, ite_true, Option.some_inj, eq_self, isNone, Bool.not_true, Int.reduceEq, decide_true, decide_false, exists_eq_left', exists_eq_left, dl_1, dl_2, eq_nn, ne_nn, rgD_hs, Int.toNat_natCast, List.length_map, cut40]
  cases h : newest f told with
  | none =>
    rw [h] at c3
    simp only [↓e_C, ↓e_V, ↓e_Fz, ↓e_Op, ↓e_Un, ↓e_B, ↓e_Chain, ↓e_AndT, ↓e_OrT, ↓e_NotT, ↓e_AndV, ↓e_OrV, ↓e_NotV, ↓e_If, ↓e_Nil, ↓e_Cons, ↓e_Tup, ↓e_Lst, ↓e_CB, ↓e_CBN, ↓e_Isi, ↓e_TupRg1, ↓e_LstRg1, ↓e_TupRg2, ↓e_LstRg2, ↓e_ScrLen, ↓e_ScrAt, ↓e_SeqI, ↓e_Enum, ↓e_Rng1, ↓e_Rng2, ↓e_Seq, ↓e_Next, ↓e_Break, ↓e_Cont, ↓e_Drop, ↓e_Ret, ↓e_RetN, ↓e_Ret0, ↓e_IfS, ↓e_Asg, ↓e_AsgN, ↓e_AsgLc, ↓e_mNil, ↓e_mVal, ↓e_mNew, ↓e_Par, ↓e_For, ↓e_LoopN, ↓e_LoopC, ↓e_Lc, ↓e_Yes, ↓e_Call, ↓e_CallN, ↓e_Append, ↓e_Extend, ↓e_Pop, ↓e_PopAt, ↓e_SetAt, ↓e_Sl, ↓e_NoP, ↓e_P, ↓e_Aug, ↓e_SrtSet, optP_some, vaP_val, boP_val, inP_val, muP_lst, vals_nil, vals_cons, brP_t, brP_f, brP_d, brP_n, scrOf, rg1, rg2, lstAt, lsOf, nt_of, nt_0, nt_1, slotR, slNew, slMu, slOf, setAll, Dl.En.set, Dl.En.wipe, wipeL, noMu_n, noMu_c, isMu_v, isMu_u, isMu_e, isMu_s, tg_nm, Dl.tg_tup, tgs_nil, tgs_cons, fSl, Rv.d, Rv.m, muD, rvDs, obAt, rvOb, obget_s, obget_e, obput_s, obput_e, put_nil, put_one, conv, argOf, argSlot, argExt, obsMu, seqD, env0, argSl, p_mul, p_mod, p_div, p_pow, p_catT, p_catL, p_maxI, p_minI, List.map_cons, List.map_nil, List.replicate_succ, List.replicate_zero, List.length_cons, List.length_nil, List.nil_append, List.cons_append, List.append_nil, List.getElem?_cons_zero, List.getElem?_cons_succ, List.getElem?_nil, List.set_cons_zero, List.set_cons_succ, List.set_nil, Option.bind_some, Option.bind_none, Option.map_some, Option.map_none, Option.some.injEq, Option.isSome_some, List.all_cons, List.all_nil, List.contains_nil, Bool.and_true, Bool.not_false, Bool.true_and, Rv.val.injEq, PyData.int.injEq, PyData.bool.injEq, PyData.tuple.injEq, PyData.list.injEq, and_assoc, Prod.mk.injEq, reduceCtorEq, Mu.lst.injEq, Int.reducePow, Int.reduceNeg, Int.reduceLT, Int.reduceLE, Int.reduceMul, Int.reduceAdd, Int.reduceSub, Int.reduceToNat, Nat.reduceLT, Nat.reduceLeDiff, Nat.zero_le, or_true, true_or, and_self, not_false_eq_true, forall_const, implies_true, if_true_left, false_or, or_false, p_oD, cut2m, List.all_cons, not_true_eq_false, false_implies, isi_bi, isi_bn, isi_bb, isi_bt, isi_bs, isi_ti, isi_tn, isi_tb, isi_tt, isi_ts, isi_si, isi_sn, isi_sb, isi_st, isi_ss, isi_ii, isi_in, isi_ib, isi_it, isi_is, x_add, x_sub, x_neg, x_lt, x_le, x_gt, x_ge, x_eqI, x_neI, x_is, x_isNot, x_ixL, x_ixT, x_int, x_abs, x_lenL, x_lenT, x_tupL, x_tupT, x_lstL, x_lstT, x_max2, x_min2, at0, at1, at2, at3, atNat, x_inT, x_inL, x_notInT, x_notInL, x_all, x_any, x_sumI, x_nilI, x_nnilI, x_nnilJ, x_eqT, x_neT, x_eqO, x_eqOI, isNone_oD, oD_n, oD_s, decide_eq_true_eq, decide_eq_false_iff_not, true_and, and_true, Nat.sub_self, Nat.reduceSub, Nat.reduceAdd, ite_true, Option.some_inj, eq_self, isNone, Bool.not_true, Int.reduceEq, decide_true, decide_false, exists_eq_left', exists_eq_left, dl_1, dl_2, eq_nn, ne_nn, rgD_hs, Int.toNat_natCast, List.length_map, cut40]
    exact c3 _ h13
  | some n =>
    rw [h] at c3
    obtain ⟨j, hjl, hj⟩ := law_newest H hi.l h
    have hle : n ≤ number := hi.le n (List.mem_of_getElem? hj)
    simp only [↓e_C, ↓e_V, ↓e_Fz, ↓e_Op, ↓e_Un, ↓e_B, ↓e_Chain, ↓e_AndT, ↓e_OrT, ↓e_NotT, ↓e_AndV, ↓e_OrV, ↓e_NotV, ↓e_If, ↓e_Nil, ↓e_Cons, ↓e_Tup, ↓e_Lst, ↓e_CB, ↓e_CBN, ↓e_Isi, ↓e_TupRg1, ↓e_LstRg1, ↓e_TupRg2, ↓e_LstRg2, ↓e_ScrLen, ↓e_ScrAt, ↓e_SeqI, ↓e_Enum, ↓e_Rng1, ↓e_Rng2, ↓e_Seq, ↓e_Next, ↓e_Break, ↓e_Cont, ↓e_Drop, ↓e_Ret, ↓e_RetN, ↓e_Ret0, ↓e_IfS, ↓e_Asg, ↓e_AsgN, ↓e_AsgLc, ↓e_mNil, ↓e_mVal, ↓e_mNew, ↓e_Par, ↓e_For, ↓e_LoopN, ↓e_LoopC, ↓e_Lc, ↓e_Yes, ↓e_Call, ↓e_CallN, ↓e_Append, ↓e_Extend, ↓e_Pop, ↓e_PopAt, ↓e_SetAt, ↓e_Sl, ↓e_NoP, ↓e_P, ↓e_Aug, ↓e_SrtSet, optP_some, vaP_val, boP_val, inP_val, muP_lst, vals_nil, vals_cons, brP_t, brP_f, brP_d, brP_n, scrOf, rg1, rg2, lstAt, lsOf, nt_of, nt_0, nt_1, slotR, slNew, slMu, slOf, setAll, Dl.En.set, Dl.En.wipe, wipeL, noMu_n, noMu_c, isMu_v, isMu_u, isMu_e, isMu_s, tg_nm, Dl.tg_tup, tgs_nil, tgs_cons, fSl, Rv.d, Rv.m, muD, rvDs, obAt, rvOb, obget_s, obget_e, obput_s, obput_e, put_nil, put_one, conv, argOf, argSlot, argExt, obsMu, seqD, env0, argSl, p_mul, p_mod, p_div, p_pow, p_catT, p_catL, p_maxI, p_minI, List.map_cons, List.map_nil, List.replicate_succ, List.replicate_zero, List.length_cons, List.length_nil, List.nil_append, List.cons_append, List.append_nil, List.getElem?_cons_zero, List.getElem?_cons_succ, List.getElem?_nil, List.set_cons_zero, List.set_cons_succ, List.set_nil, Option.bind_some, Option.bind_none, Option.map_some, Option.map_none, Option.some.injEq, Option.isSome_some, List.all_cons, List.all_nil, List.contains_nil, Bool.and_true, Bool.not_false, Bool.true_and, Rv.val.injEq, PyData.int.injEq, PyData.bool.injEq, PyData.tuple.injEq, PyData.list.injEq, and_assoc, Prod.mk.injEq, reduceCtorEq, Mu.lst.injEq, Int.reducePow, Int.reduceNeg, Int.reduceLT, Int.reduceLE, Int.reduceMul, Int.reduceAdd, Int.reduceSub, Int.reduceToNat, Nat.reduceLT, Nat.reduceLeDiff, Nat.zero_le, or_true, true_or, and_self, not_false_eq_true, forall_const, implies_true, if_true_left, false_or, or_false, p_oD, cut2m, List.all_cons, not_true_eq_false, false_implies, isi_bi, isi_bn, isi_bb, isi_bt, isi_bs, isi_ti, isi_tn, isi_tb, isi_tt, isi_ts, isi_si, isi_sn, isi_sb, isi_st, isi_ss, isi_ii, isi_in, isi_ib, isi_it, isi_is, x_add, x_sub, x_neg, x_lt, x_le, x_gt, x_ge, x_eqI, x_neI, x_is, x_isNot, x_ixL, x_ixT, x_int, x_abs, x_lenL, x_lenT, x_tupL, x_tupT, x_lstL, x_lstT, x_max2, x_min2, at0, at1, at2, at3, atNat, x_inT, x_inL, x_notInT, x_notInL, x_all, x_any, x_sumI, x_nilI, x_nnilI, x_nnilJ, x_eqT, x_neT, x_eqO, x_eqOI, isNone_oD, oD_n, oD_s, decide_eq_true_eq, decide_eq_false_iff_not, true_and, and_true, Nat.sub_self, Nat.reduceSub, Nat.reduceAdd, ite_true, Option.some_inj, eq_self, isNone, Bool.not_true, Int.reduceEq, decide_true, decide_false, exists_eq_left', exists_eq_left, dl_1, dl_2, eq_nn, ne_nn, rgD_hs, Int.toNat_natCast, List.length_map, cut40]
    refine ⟨fun z => by omega, fun _ => ⟨by omega, by omega, isMu_of h13, ?_⟩⟩
    refine lcGo_fil (enc := PyData.int) (fun x => !l.contains x) (fun x => PyData.int (holds.getD x.toNat 0)) (hsI m) (by rw [hs_len]; omega) (fun x hx => ⟨_, rfl, rfl, fun QT h => ?_, fun _ QE h => ?_⟩) ?_
    · simp only [↓e_C, ↓e_V, ↓e_Fz, ↓e_Op, ↓e_Un, ↓e_B, ↓e_Chain, ↓e_AndT, ↓e_OrT, ↓e_NotT, ↓e_AndV, ↓e_OrV, ↓e_NotV, ↓e_If, ↓e_Nil, ↓e_Cons, ↓e_Tup, ↓e_Lst, ↓e_CB, ↓e_CBN, ↓e_Isi, ↓e_TupRg1, ↓e_LstRg1, ↓e_TupRg2, ↓e_LstRg2, ↓e_ScrLen, ↓e_ScrAt, ↓e_SeqI, ↓e_Enum, ↓e_Rng1, ↓e_Rng2, ↓e_Seq, ↓e_Next, ↓e_Break, ↓e_Cont, ↓e_Drop, ↓e_Ret, ↓e_RetN, ↓e_Ret0, ↓e_IfS, ↓e_Asg, ↓e_AsgN, ↓e_AsgLc, ↓e_mNil, ↓e_mVal, ↓e_mNew, ↓e_Par, ↓e_For, ↓e_LoopN, ↓e_LoopC, ↓e_Lc, ↓e_Yes, ↓e_Call, ↓e_CallN, ↓e_Append, ↓e_Extend, ↓e_Pop, ↓e_PopAt, ↓e_SetAt, ↓e_Sl, ↓e_NoP, ↓e_P, ↓e_Aug, ↓e_SrtSet, optP_some, vaP_val, boP_val, inP_val, muP_lst, vals_nil, vals_cons, brP_t, brP_f, brP_d, brP_n, scrOf, rg1, rg2, lstAt, lsOf, nt_of, nt_0, nt_1, slotR, slNew, slMu, slOf, setAll, Dl.En.set, Dl.En.wipe, wipeL, noMu_n, noMu_c, isMu_v, isMu_u, isMu_e, isMu_s, tg_nm, Dl.tg_tup, tgs_nil, tgs_cons, fSl, Rv.d, Rv.m, muD, rvDs, obAt, rvOb, obget_s, obget_e, obput_s, obput_e, put_nil, put_one, conv, argOf, argSlot, argExt, obsMu, seqD, env0, argSl, p_mul, p_mod, p_div, p_pow, p_catT, p_catL, p_maxI, p_minI, List.map_cons, List.map_nil, List.replicate_succ, List.replicate_zero, List.length_cons, List.length_nil, List.nil_append, List.cons_append, List.append_nil, List.getElem?_cons_zero, List.getElem?_cons_succ, List.getElem?_nil, List.set_cons_zero, List.set_cons_succ, List.set_nil, Option.bind_some, Option.bind_none, Option.map_some, Option.map_none, Option.some.injEq, Option.isSome_some, List.all_cons, List.all_nil, List.contains_nil, Bool.and_true, Bool.not_false, Bool.true_and, Rv.val.injEq, PyData.int.injEq, PyData.bool.injEq, PyData.tuple.injEq, PyData.list.injEq, and_assoc, Prod.mk.injEq, reduceCtorEq, Mu.lst.injEq, Int.reducePow, Int.reduceNeg, Int.reduceLT, Int.reduceLE, Int.reduceMul, Int.reduceAdd, Int.reduceSub, Int.reduceToNat, Nat.reduceLT, Nat.reduceLeDiff, Nat.zero_le, or_true, true_or, and_self, not_false_eq_true, forall_const, implies_true, if_true_left, false_or, or_false, p_oD, cut2m, List.all_cons, not_true_eq_false, false_implies, isi_bi, isi_bn, isi_bb, isi_bt, isi_bs, isi_ti, isi_tn, isi_tb, isi_tt, isi_ts, isi_si, isi_sn, isi_sb, isi_st, isi_ss, isi_ii, isi_in, isi_ib, isi_it, isi_is, x_add, x_sub, x_neg, x_lt, x_le, x_gt, x_ge, x_eqI, x_neI, x_is, x_isNot, x_ixL, x_ixT, x_int, x_abs, x_lenL, x_lenT, x_tupL, x_tupT, x_lstL, x_lstT, x_max2, x_min2, at0, at1, at2, at3, atNat, x_inT, x_inL, x_notInT, x_notInL, x_all, x_any, x_sumI, x_nilI, x_nnilI, x_nnilJ, x_eqT, x_neT, x_eqO, x_eqOI, isNone_oD, oD_n, oD_s, decide_eq_true_eq, decide_eq_false_iff_not, true_and, and_true, Nat.sub_self, Nat.reduceSub, Nat.reduceAdd, ite_true, Option.some_inj, eq_self, isNone, Bool.not_true, Int.reduceEq, decide_true, decide_false, exists_eq_left', exists_eq_left, dl_1, dl_2, eq_nn, ne_nn, rgD_hs, Int.toNat_natCast, List.length_map, cut40]; exact h
    · obtain ⟨x0, x1⟩ := hs_mem.mp hx
      obtain ⟨i, rfl⟩ := Int.eq_ofNat_of_zero_le x0
      have hil : i < holds.length := by omega
      simp only [↓e_C, ↓e_V, ↓e_Fz, ↓e_Op, ↓e_Un, ↓e_B, ↓e_Chain, ↓e_AndT, ↓e_OrT, ↓e_NotT, ↓e_AndV, ↓e_OrV, ↓e_NotV, ↓e_If, ↓e_Nil, ↓e_Cons, ↓e_Tup, ↓e_Lst, ↓e_CB, ↓e_CBN, ↓e_Isi, ↓e_TupRg1, ↓e_LstRg1, ↓e_TupRg2, ↓e_LstRg2, ↓e_ScrLen, ↓e_ScrAt, ↓e_SeqI, ↓e_Enum, ↓e_Rng1, ↓e_Rng2, ↓e_Seq, ↓e_Next, ↓e_Break, ↓e_Cont, ↓e_Drop, ↓e_Ret, ↓e_RetN, ↓e_Ret0, ↓e_IfS, ↓e_Asg, ↓e_AsgN, ↓e_AsgLc, ↓e_mNil, ↓e_mVal, ↓e_mNew, ↓e_Par, ↓e_For, ↓e_LoopN, ↓e_LoopC, ↓e_Lc, ↓e_Yes, ↓e_Call, ↓e_CallN, ↓e_Append, ↓e_Extend, ↓e_Pop, ↓e_PopAt, ↓e_SetAt, ↓e_Sl, ↓e_NoP, ↓e_P, ↓e_Aug, ↓e_SrtSet, optP_some, vaP_val, boP_val, inP_val, muP_lst, vals_nil, vals_cons, brP_t, brP_f, brP_d, brP_n, scrOf, rg1, rg2, lstAt, lsOf, nt_of, nt_0, nt_1, slotR, slNew, slMu, slOf, setAll, Dl.En.set, Dl.En.wipe, wipeL, noMu_n, noMu_c, isMu_v, isMu_u, isMu_e, isMu_s, tg_nm, Dl.tg_tup, tgs_nil, tgs_cons, fSl, Rv.d, Rv.m, muD, rvDs, obAt, rvOb, obget_s, obget_e, obput_s, obput_e, put_nil, put_one, conv, argOf, argSlot, argExt, obsMu, seqD, env0, argSl, p_mul, p_mod, p_div, p_pow, p_catT, p_catL, p_maxI, p_minI, List.map_cons, List.map_nil, List.replicate_succ, List.replicate_zero, List.length_cons, List.length_nil, List.nil_append, List.cons_append, List.append_nil, List.getElem?_cons_zero, List.getElem?_cons_succ, List.getElem?_nil, List.set_cons_zero, List.set_cons_succ, List.set_nil, Option.bind_some, Option.bind_none, Option.map_some, Option.map_none, Option.some.injEq, Option.isSome_some, List.all_cons, List.all_nil, List.contains_nil, Bool.and_true, Bool.not_false, Bool.true_and, Rv.val.injEq, PyData.int.injEq, PyData.bool.injEq, PyData.tuple.injEq, PyData.list.injEq, and_assoc, Prod.mk.injEq, reduceCtorEq, Mu.lst.injEq, Int.reducePow, Int.reduceNeg, Int.reduceLT, Int.reduceLE, Int.reduceMul, Int.reduceAdd, Int.reduceSub, Int.reduceToNat, Nat.reduceLT, Nat.reduceLeDiff, Nat.zero_le, or_true, true_or, and_self, not_false_eq_true, forall_const, implies_true, if_true_left, false_or, or_false, p_oD, cut2m, List.all_cons, not_true_eq_false, false_implies, isi_bi, isi_bn, isi_bb, isi_bt, isi_bs, isi_ti, isi_tn, isi_tb, isi_tt, isi_ts, isi_si, isi_sn, isi_sb, isi_st, isi_ss, isi_ii, isi_in, isi_ib, isi_it, isi_is, x_add, x_sub, x_neg, x_lt, x_le, x_gt, x_ge, x_eqI, x_neI, x_is, x_isNot, x_ixL, x_ixT, x_int, x_abs, x_lenL, x_lenT, x_tupL, x_tupT, x_lstL, x_lstT, x_max2, x_min2, at0, at1, at2, at3, atNat, x_inT, x_inL, x_notInT, x_notInL, x_all, x_any, x_sumI, x_nilI, x_nnilI, x_nnilJ, x_eqT, x_neT, x_eqO, x_eqOI, isNone_oD, oD_n, oD_s, decide_eq_true_eq, decide_eq_false_iff_not, true_and, and_true, Nat.sub_self, Nat.reduceSub, Nat.reduceAdd, ite_true, Option.some_inj, eq_self, isNone, Bool.not_true, Int.reduceEq, decide_true, decide_false, exists_eq_left', exists_eq_left, dl_1, dl_2, eq_nn, ne_nn, rgD_hs, Int.toNat_natCast, List.length_map, cut40]
      refine optP_i (a := PyData.int holds[i]) (by rw [List.getElem?_map, List.getElem?_eq_getElem hil]; rfl) ?_
      have e : holds.getD ((i : Nat) : Int).toNat 0 = holds[i] := by simp [hil]
      rw [e] at h
      exact h
    · have e : ((hsI m).filter fun x => !l.contains x).map (fun x => PyData.int (holds.getD x.toNat 0)) = (((hsI m).filter fun x => !l.contains x).map fun x => holds.getD x.toNat 0).map PyData.int := by rw [List.map_map]; rfl
      rw [e]
      have hc : (((hsI m).filter fun x => !l.contains x).map fun x => holds.getD x.toNat 0).contains n = true := by
        rw [List.contains_iff_mem]
        have hjm : j < m := by rw [← hlm]; exact (List.getElem?_eq_some_iff.mp hj).1
        refine List.mem_map.mpr ⟨(j : Int), List.mem_filter.mpr ⟨hs_mem.mpr ⟨by omega, by omega⟩, by simpa using hjl⟩, ?_⟩
        simp [hj]
      simp only [↓e_C, ↓e_V, ↓e_Fz, ↓e_Op, ↓e_Un, ↓e_B, ↓e_Chain, ↓e_AndT, ↓e_OrT, ↓e_NotT, ↓e_AndV, ↓e_OrV, ↓e_NotV, ↓e_If, ↓e_Nil, ↓e_Cons, ↓e_Tup, ↓e_Lst, ↓e_CB, ↓e_CBN, ↓e_Isi, ↓e_TupRg1, ↓e_LstRg1, ↓e_TupRg2, ↓e_LstRg2, ↓e_ScrLen, ↓e_ScrAt, ↓e_SeqI, ↓e_Enum, ↓e_Rng1, ↓e_Rng2, ↓e_Seq, ↓e_Next, ↓e_Break, ↓e_Cont, ↓e_Drop, ↓e_Ret, ↓e_RetN, ↓e_Ret0, ↓e_IfS, ↓e_Asg, ↓e_AsgN, ↓e_AsgLc, ↓e_mNil, ↓e_mVal, ↓e_mNew, ↓e_Par, ↓e_For, ↓e_LoopN, ↓e_LoopC, ↓e_Lc, ↓e_Yes, ↓e_Call, ↓e_CallN, ↓e_Append, ↓e_Extend, ↓e_Pop, ↓e_PopAt, ↓e_SetAt, ↓e_Sl, ↓e_NoP, ↓e_P, ↓e_Aug, ↓e_SrtSet, optP_some, vaP_val, boP_val, inP_val, muP_lst, vals_nil, vals_cons, brP_t, brP_f, brP_d, brP_n, scrOf, rg1, rg2, lstAt, lsOf, nt_of, nt_0, nt_1, slotR, slNew, slMu, slOf, setAll, Dl.En.set, Dl.En.wipe, wipeL, noMu_n, noMu_c, isMu_v, isMu_u, isMu_e, isMu_s, tg_nm, Dl.tg_tup, tgs_nil, tgs_cons, fSl, Rv.d, Rv.m, muD, rvDs, obAt, rvOb, obget_s, obget_e, obput_s, obput_e, put_nil, put_one, conv, argOf, argSlot, argExt, obsMu, seqD, env0, argSl, p_mul, p_mod, p_div, p_pow, p_catT, p_catL, p_maxI, p_minI, List.map_cons, List.map_nil, List.replicate_succ, List.replicate_zero, List.length_cons, List.length_nil, List.nil_append, List.cons_append, List.append_nil, List.getElem?_cons_zero, List.getElem?_cons_succ, List.getElem?_nil, List.set_cons_zero, List.set_cons_succ, List.set_nil, Option.bind_some, Option.bind_none, Option.map_some, Option.map_none, Option.some.injEq, Option.isSome_some, List.all_cons, List.all_nil, List.contains_nil, Bool.and_true, Bool.not_false, Bool.true_and, Rv.val.injEq, PyData.int.injEq, PyData.bool.injEq, PyData.tuple.injEq, PyData.list.injEq, and_assoc, Prod.mk.injEq, reduceCtorEq, Mu.lst.injEq, Int.reducePow, Int.reduceNeg, Int.reduceLT, Int.reduceLE, Int.reduceMul, Int.reduceAdd, Int.reduceSub, Int.reduceToNat, Nat.reduceLT, Nat.reduceLeDiff, Nat.zero_le, or_true, true_or, and_self, not_false_eq_true, forall_const, implies_true, if_true_left, false_or, or_false, p_oD, cut2m, List.all_cons, not_true_eq_false, false_implies, isi_bi, isi_bn, isi_bb, isi_bt, isi_bs, isi_ti, isi_tn, isi_tb, isi_tt, isi_ts, isi_si, isi_sn, isi_sb, isi_st, isi_ss, isi_ii, isi_in, isi_ib, isi_it, isi_is, x_add, x_sub, x_neg, x_lt, x_le, x_gt, x_ge, x_eqI, x_neI, x_is, x_isNot, x_ixL, x_ixT, x_int, x_abs, x_lenL, x_lenT, x_tupL, x_tupT, x_lstL, x_lstT, x_max2, x_min2, at0, at1, at2, at3, atNat, x_inT, x_inL, x_notInT, x_notInL, x_all, x_any, x_sumI, x_nilI, x_nnilI, x_nnilJ, x_eqT, x_neT, x_eqO, x_eqOI, isNone_oD, oD_n, oD_s, decide_eq_true_eq, decide_eq_false_iff_not, true_and, and_true, Nat.sub_self, Nat.reduceSub, Nat.reduceAdd, ite_true, Option.some_inj, eq_self, isNone, Bool.not_true, Int.reduceEq, decide_true, decide_false, exists_eq_left', exists_eq_left, dl_1, dl_2, eq_nn, ne_nn, rgD_hs, Int.toNat_natCast, List.length_map, cut40]
      rw [hc]
      simp only [↓e_C, ↓e_V, ↓e_Fz, ↓e_Op, ↓e_Un, ↓e_B, ↓e_Chain, ↓e_AndT, ↓e_OrT, ↓e_NotT, ↓e_AndV, ↓e_OrV, ↓e_NotV, ↓e_If, ↓e_Nil, ↓e_Cons, ↓e_Tup, ↓e_Lst, ↓e_CB, ↓e_CBN, ↓e_Isi, ↓e_TupRg1, ↓e_LstRg1, ↓e_TupRg2, ↓e_LstRg2, ↓e_ScrLen, ↓e_ScrAt, ↓e_SeqI, ↓e_Enum, ↓e_Rng1, ↓e_Rng2, ↓e_Seq, ↓e_Next, ↓e_Break, ↓e_Cont, ↓e_Drop, ↓e_Ret, ↓e_RetN, ↓e_Ret0, ↓e_IfS, ↓e_Asg, ↓e_AsgN, ↓e_AsgLc, ↓e_mNil, ↓e_mVal, ↓e_mNew, ↓e_Par, ↓e_For, ↓e_LoopN, ↓e_LoopC, ↓e_Lc, ↓e_Yes, ↓e_Call, ↓e_CallN, ↓e_Append, ↓e_Extend, ↓e_Pop, ↓e_PopAt, ↓e_SetAt, ↓e_Sl, ↓e_NoP, ↓e_P, ↓e_Aug, ↓e_SrtSet, optP_some, vaP_val, boP_val, inP_val, muP_lst, vals_nil, vals_cons, brP_t, brP_f, brP_d, brP_n, scrOf, rg1, rg2, lstAt, lsOf, nt_of, nt_0, nt_1, slotR, slNew, slMu, slOf, setAll, Dl.En.set, Dl.En.wipe, wipeL, noMu_n, noMu_c, isMu_v, isMu_u, isMu_e, isMu_s, tg_nm, Dl.tg_tup, tgs_nil, tgs_cons, fSl, Rv.d, Rv.m, muD, rvDs, obAt, rvOb, obget_s, obget_e, obput_s, obput_e, put_nil, put_one, conv, argOf, argSlot, argExt, obsMu, seqD, env0, argSl, p_mul, p_mod, p_div, p_pow, p_catT, p_catL, p_maxI, p_minI, List.map_cons, List.map_nil, List.replicate_succ, List.replicate_zero, List.length_cons, List.length_nil, List.nil_append, List.cons_append, List.append_nil, List.getElem?_cons_zero, List.getElem?_cons_succ, List.getElem?_nil, List.set_cons_zero, List.set_cons_succ, List.set_nil, Option.bind_some, Option.bind_none, Option.map_some, Option.map_none, Option.some.injEq, Option.isSome_some, List.all_cons, List.all_nil, List.contains_nil, Bool.and_true, Bool.not_false, Bool.true_and, Rv.val.injEq, PyData.int.injEq, PyData.bool.injEq, PyData.tuple.injEq, PyData.list.injEq, and_assoc, Prod.mk.injEq, reduceCtorEq, Mu.lst.injEq, Int.reducePow, Int.reduceNeg, Int.reduceLT, Int.reduceLE, Int.reduceMul, Int.reduceAdd, Int.reduceSub, Int.reduceToNat, Nat.reduceLT, Nat.reduceLeDiff, Nat.zero_le, or_true, true_or, and_self, not_false_eq_true, forall_const, implies_true, if_true_left, false_or, or_false, p_oD, cut2m, List.all_cons, not_true_eq_false, false_implies, isi_bi, isi_bn, isi_bb, isi_bt, isi_bs, isi_ti, isi_tn, isi_tb, isi_tt, isi_ts, isi_si, isi_sn, isi_sb, isi_st, isi_ss, isi_ii, isi_in, isi_ib, isi_it, isi_is, x_add, x_sub, x_neg, x_lt, x_le, x_gt, x_ge, x_eqI, x_neI, x_is, x_isNot, x_ixL, x_ixT, x_int, x_abs, x_lenL, x_lenT, x_tupL, x_tupT, x_lstL, x_lstT, x_max2, x_min2, at0, at1, at2, at3, atNat, x_inT, x_inL, x_notInT, x_notInL, x_all, x_any, x_sumI, x_nilI, x_nnilI, x_nnilJ, x_eqT, x_neT, x_eqO, x_eqOI, isNone_oD, oD_n, oD_s, decide_eq_true_eq, decide_eq_false_iff_not, true_and, and_true, Nat.sub_self, Nat.reduceSub, Nat.reduceAdd, ite_true, Option.some_inj, eq_self, isNone, Bool.not_true, Int.reduceEq, decide_true, decide_false, exists_eq_left', exists_eq_left, dl_1, dl_2, eq_nn, ne_nn, rgD_hs, Int.toNat_natCast, List.length_map, cut40]
      exact c3 _ h13
theorem c1_t (hi : HiOk m f number holds s l) (hf : LiOk m f) (hm : m ≤ 12) (H : Hon holds s l told) (h13 : nMu s13) (h16 : nMu s16) (hN : ∀ g r ts s12 s13 s14 s15 s16, nMu s13 → nMu s16 → De.nx (lawE ns k g r m f 0 number holds s l ts s12 s13 s14 s15 s16)) :
    r_law_c1 De (lawE ns k g r m f 0 number holds s l (.val (.list (told.map oD))) s12 s13 s14 s15 s16) := by
  have hlm := hi.len
  have hlen := H.len
  have c2 := fun s13 h13 s16 h16 => c2_ok (t := 0) (k := k) (ns := ns) (g := g) (r := r) (s12 := s12) (s13 := s13) (s14 := s14) (s15 := s15) (s16 := s16) (De := De) hi hf hm (H.newer (number := number)) h13 h16 fun g r ts s12 s13 s14 s15 h => hN g r ts s12 s13 s14 s15 s16 h h16
  unfold r_law_c1
  unfold lawE at c2 ⊢
  simp only [↓e_C, ↓e_V, ↓e_Fz, ↓e_Op, ↓e_Un, ↓e_B, ↓e_Chain, ↓e_AndT, ↓e_OrT, ↓e_NotT, ↓e_AndV, ↓e_OrV, ↓e_NotV, ↓e_If, ↓e_Nil, ↓e_Cons, ↓e_Tup, ↓e_Lst, ↓e_CB, ↓e_CBN, ↓e_Isi, ↓e_TupRg1, ↓e_LstRg1, ↓e_TupRg2, ↓e_LstRg2, ↓e_ScrLen, ↓e_ScrAt, ↓e_SeqI, ↓e_Enum, ↓e_Rng1, ↓e_Rng2, ↓e_Seq, ↓e_Next, ↓e_Break, ↓e_Cont, ↓e_Drop, ↓e_Ret, ↓e_RetN, ↓e_Ret0, ↓e_IfS, ↓e_Asg, ↓e_AsgN, ↓e_AsgLc, ↓e_mNil, ↓e_mVal, ↓e_mNew, ↓e_Par, ↓e_For, ↓e_LoopN, ↓e_LoopC, ↓e_Lc, ↓e_Yes, ↓e_Call, ↓e_CallN, ↓e_Append, ↓e_Extend, ↓e_Pop, ↓e_PopAt, ↓e_SetAt, ↓e_Sl, ↓e_NoP, ↓e_P, ↓e_Aug, ↓e_SrtSet, optP_some, vaP_val, boP_val, inP_val, muP_lst, vals_nil, vals_cons, brP_t, brP_f, brP_d, brP_n, scrOf, rg1, rg2, lstAt, lsOf, nt_of, nt_0, nt_1, slotR, slNew, slMu, slOf, setAll, Dl.En.set, Dl.En.wipe, wipeL, noMu_n, noMu_c, isMu_v, isMu_u, isMu_e, isMu_s, tg_nm, Dl.tg_tup, tgs_nil, tgs_cons, fSl, Rv.d, Rv.m, muD, rvDs, obAt, rvOb, obget_s, obget_e, obput_s, obput_e, put_nil, put_one, conv, argOf, argSlot, argExt, obsMu, seqD, env0, argSl, p_mul, p_mod, p_div, p_pow, p_catT, p_catL, p_maxI, p_minI, List.map_cons, List.map_nil, List.replicate_succ, List.replicate_zero, List.length_cons, List.length_nil, List.nil_append, List.cons_append, List.append_nil, List.getElem?_cons_zero, List.getElem?_cons_succ, List.getElem?_nil, List.set_cons_zero, List.set_cons_succ, List.set_nil, Option.bind_some, Option.bind_none, Option.map_some, Option.map_none, Option.some.injEq, Option.isSome_some, List.all_cons, List.all_nil, List.contains_nil, Bool.and_true, Bool.not_false, Bool.true_and, Rv.val.injEq, PyData.int.injEq, PyData.bool.injEq, PyData.tuple.injEq, PyData.list.injEq, and_assoc, Prod.mk.injEq, reduceCtorEq, Mu.lst.injEq, Int.reducePow, Int.reduceNeg, Int.reduceLT, Int.reduceLE, Int.reduceMul, Int.reduceAdd, Int.reduceSub, Int.reduceToNat, Nat.reduceLT, Nat.reduceLeDiff, Nat.zero_le, or_true, true_or, and_self, not_false_eq_true, forall_const, implies_true, if_true_left, false_or, or_false, p_oD, cut2m, List.all_cons, not_true_eq_false, false_implies, isi_bi, isi_bn, isi_bb, isi_bt, isi_bs, isi_ti, isi_tn, isi_tb, isi_tt, isi_ts, isi_si, isi_sn, isi_sb, isi_st, isi_ss, isi_ii, isi_in, isi_ib, isi_it, isi_is, x_add, x_sub, x_neg, x_lt, x_le, x_gt, x_ge, x_eqI, x_neI, x_is, x_isNot, x_ixL, x_ixT, x_int, x_abs, x_lenL, x_lenT, x_tupL, x_tupT, x_lstL, x_lstT, x_max2, x_min2, at0, at1, at2, at3, atNat, x_inT, x_inL, x_notInT, x_notInL, x_all, x_any, x_sumI, x_nilI, x_nnilI, x_nnilJ, x_eqT, x_neT, x_eqO, x_eqOI, isNone_oD, oD_n, oD_s, decide_eq_true_eq, decide_eq_false_iff_not, true_and, and_true, Nat.sub_self, Nat.reduceSub, Nat.reduceAdd, ite_true, Option.some_inj, eq_self, isNone, Bool.not_true, Int.reduceEq, decide_true, decide_false, exists_eq_left', exists_eq_left, dl_1, dl_2, eq_nn, ne_nn, rgD_hs, Int.toNat_natCast, List.length_map, cut40]
  rw [enumD_map]
  refine ⟨by rw [Bool.and_eq_true]; exact ⟨isMu_of h13, isMu_of h16⟩, ?_⟩
  refine lcGo_map (fun p => oD (newer number s l p)) told.zipIdx (by rw [List.length_zipIdx]; omega) (fun p hp => ⟨_, rfl, rfl, fun QE h => ?_⟩) ?_
  · unfold newer at h
    simp only [↓e_C, ↓e_V, ↓e_Fz, ↓e_Op, ↓e_Un, ↓e_B, ↓e_Chain, ↓e_AndT, ↓e_OrT, ↓e_NotT, ↓e_AndV, ↓e_OrV, ↓e_NotV, ↓e_If, ↓e_Nil, ↓e_Cons, ↓e_Tup, ↓e_Lst, ↓e_CB, ↓e_CBN, ↓e_Isi, ↓e_TupRg1, ↓e_LstRg1, ↓e_TupRg2, ↓e_LstRg2, ↓e_ScrLen, ↓e_ScrAt, ↓e_SeqI, ↓e_Enum, ↓e_Rng1, ↓e_Rng2, ↓e_Seq, ↓e_Next, ↓e_Break, ↓e_Cont, ↓e_Drop, ↓e_Ret, ↓e_RetN, ↓e_Ret0, ↓e_IfS, ↓e_Asg, ↓e_AsgN, ↓e_AsgLc, ↓e_mNil, ↓e_mVal, ↓e_mNew, ↓e_Par, ↓e_For, ↓e_LoopN, ↓e_LoopC, ↓e_Lc, ↓e_Yes, ↓e_Call, ↓e_CallN, ↓e_Append, ↓e_Extend, ↓e_Pop, ↓e_PopAt, ↓e_SetAt, ↓e_Sl, ↓e_NoP, ↓e_P, ↓e_Aug, ↓e_SrtSet, optP_some, vaP_val, boP_val, inP_val, muP_lst, vals_nil, vals_cons, brP_t, brP_f, brP_d, brP_n, scrOf, rg1, rg2, lstAt, lsOf, nt_of, nt_0, nt_1, slotR, slNew, slMu, slOf, setAll, Dl.En.set, Dl.En.wipe, wipeL, noMu_n, noMu_c, isMu_v, isMu_u, isMu_e, isMu_s, tg_nm, Dl.tg_tup, tgs_nil, tgs_cons, fSl, Rv.d, Rv.m, muD, rvDs, obAt, rvOb, obget_s, obget_e, obput_s, obput_e, put_nil, put_one, conv, argOf, argSlot, argExt, obsMu, seqD, env0, argSl, p_mul, p_mod, p_div, p_pow, p_catT, p_catL, p_maxI, p_minI, List.map_cons, List.map_nil, List.replicate_succ, List.replicate_zero, List.length_cons, List.length_nil, List.nil_append, List.cons_append, List.append_nil, List.getElem?_cons_zero, List.getElem?_cons_succ, List.getElem?_nil, List.set_cons_zero, List.set_cons_succ, List.set_nil, Option.bind_some, Option.bind_none, Option.map_some, Option.map_none, Option.some.injEq, Option.isSome_some, List.all_cons, List.all_nil, List.contains_nil, Bool.and_true, Bool.not_false, Bool.true_and, Rv.val.injEq, PyData.int.injEq, PyData.bool.injEq, PyData.tuple.injEq, PyData.list.injEq, and_assoc, Prod.mk.injEq, reduceCtorEq, Mu.lst.injEq, Int.reducePow, Int.reduceNeg, Int.reduceLT, Int.reduceLE, Int.reduceMul, Int.reduceAdd, Int.reduceSub, Int.reduceToNat, Nat.reduceLT, Nat.reduceLeDiff, Nat.zero_le, or_true, true_or, and_self, not_false_eq_true, forall_const, implies_true, if_true_left, false_or, or_false, p_oD, cut2m, List.all_cons, not_true_eq_false, false_implies, isi_bi, isi_bn, isi_bb, isi_bt, isi_bs, isi_ti, isi_tn, isi_tb, isi_tt, isi_ts, isi_si, isi_sn, isi_sb, isi_st, isi_ss, isi_ii, isi_in, isi_ib, isi_it, isi_is, x_add, x_sub, x_neg, x_lt, x_le, x_gt, x_ge, x_eqI, x_neI, x_is, x_isNot, x_ixL, x_ixT, x_int, x_abs, x_lenL, x_lenT, x_tupL, x_tupT, x_lstL, x_lstT, x_max2, x_min2, at0, at1, at2, at3, atNat, x_inT, x_inL, x_notInT, x_notInL, x_all, x_any, x_sumI, x_nilI, x_nnilI, x_nnilJ, x_eqT, x_neT, x_eqO, x_eqOI, isNone_oD, oD_n, oD_s, decide_eq_true_eq, decide_eq_false_iff_not, true_and, and_true, Nat.sub_self, Nat.reduceSub, Nat.reduceAdd, ite_true, Option.some_inj, eq_self, isNone, Bool.not_true, Int.reduceEq, decide_true, decide_false, exists_eq_left', exists_eq_left, dl_1, dl_2, eq_nn, ne_nn, rgD_hs, Int.toNat_natCast, List.length_map, cut40]
    refine ⟨fun h1 => ⟨fun h2 => ?_, fun h2 => ?_⟩, fun h1 => ?_⟩
    · rw [h1, h2] at h; exact h
    · rw [h1, h2] at h; exact h
    · rw [h1] at h; exact h
  · have e : told.zipIdx.map (fun p => oD (newer number s l p)) = (told.zipIdx.map (newer number s l)).map oD := by rw [List.map_map]; rfl
    rw [e]
    simp only [↓e_C, ↓e_V, ↓e_Fz, ↓e_Op, ↓e_Un, ↓e_B, ↓e_Chain, ↓e_AndT, ↓e_OrT, ↓e_NotT, ↓e_AndV, ↓e_OrV, ↓e_NotV, ↓e_If, ↓e_Nil, ↓e_Cons, ↓e_Tup, ↓e_Lst, ↓e_CB, ↓e_CBN, ↓e_Isi, ↓e_TupRg1, ↓e_LstRg1, ↓e_TupRg2, ↓e_LstRg2, ↓e_ScrLen, ↓e_ScrAt, ↓e_SeqI, ↓e_Enum, ↓e_Rng1, ↓e_Rng2, ↓e_Seq, ↓e_Next, ↓e_Break, ↓e_Cont, ↓e_Drop, ↓e_Ret, ↓e_RetN, ↓e_Ret0, ↓e_IfS, ↓e_Asg, ↓e_AsgN, ↓e_AsgLc, ↓e_mNil, ↓e_mVal, ↓e_mNew, ↓e_Par, ↓e_For, ↓e_LoopN, ↓e_LoopC, ↓e_Lc, ↓e_Yes, ↓e_Call, ↓e_CallN, ↓e_Append, ↓e_Extend, ↓e_Pop, ↓e_PopAt, ↓e_SetAt, ↓e_Sl, ↓e_NoP, ↓e_P, ↓e_Aug, ↓e_SrtSet, optP_some, vaP_val, boP_val, inP_val, muP_lst, vals_nil, vals_cons, brP_t, brP_f, brP_d, brP_n, scrOf, rg1, rg2, lstAt, lsOf, nt_of, nt_0, nt_1, slotR, slNew, slMu, slOf, setAll, Dl.En.set, Dl.En.wipe, wipeL, noMu_n, noMu_c, isMu_v, isMu_u, isMu_e, isMu_s, tg_nm, Dl.tg_tup, tgs_nil, tgs_cons, fSl, Rv.d, Rv.m, muD, rvDs, obAt, rvOb, obget_s, obget_e, obput_s, obput_e, put_nil, put_one, conv, argOf, argSlot, argExt, obsMu, seqD, env0, argSl, p_mul, p_mod, p_div, p_pow, p_catT, p_catL, p_maxI, p_minI, List.map_cons, List.map_nil, List.replicate_succ, List.replicate_zero, List.length_cons, List.length_nil, List.nil_append, List.cons_append, List.append_nil, List.getElem?_cons_zero, List.getElem?_cons_succ, List.getElem?_nil, List.set_cons_zero, List.set_cons_succ, List.set_nil, Option.bind_some, Option.bind_none, Option.map_some, Option.map_none, Option.some.injEq, Option.isSome_some, List.all_cons, List.all_nil, List.contains_nil, Bool.and_true, Bool.not_false, Bool.true_and, Rv.val.injEq, PyData.int.injEq, PyData.bool.injEq, PyData.tuple.injEq, PyData.list.injEq, and_assoc, Prod.mk.injEq, reduceCtorEq, Mu.lst.injEq, Int.reducePow, Int.reduceNeg, Int.reduceLT, Int.reduceLE, Int.reduceMul, Int.reduceAdd, Int.reduceSub, Int.reduceToNat, Nat.reduceLT, Nat.reduceLeDiff, Nat.zero_le, or_true, true_or, and_self, not_false_eq_true, forall_const, implies_true, if_true_left, false_or, or_false, p_oD, cut2m, List.all_cons, not_true_eq_false, false_implies, isi_bi, isi_bn, isi_bb, isi_bt, isi_bs, isi_ti, isi_tn, isi_tb, isi_tt, isi_ts, isi_si, isi_sn, isi_sb, isi_st, isi_ss, isi_ii, isi_in, isi_ib, isi_it, isi_is, x_add, x_sub, x_neg, x_lt, x_le, x_gt, x_ge, x_eqI, x_neI, x_is, x_isNot, x_ixL, x_ixT, x_int, x_abs, x_lenL, x_lenT, x_tupL, x_tupT, x_lstL, x_lstT, x_max2, x_min2, at0, at1, at2, at3, atNat, x_inT, x_inL, x_notInT, x_notInL, x_all, x_any, x_sumI, x_nilI, x_nnilI, x_nnilJ, x_eqT, x_neT, x_eqO, x_eqOI, isNone_oD, oD_n, oD_s, decide_eq_true_eq, decide_eq_false_iff_not, true_and, and_true, Nat.sub_self, Nat.reduceSub, Nat.reduceAdd, ite_true, Option.some_inj, eq_self, isNone, Bool.not_true, Int.reduceEq, decide_true, decide_false, exists_eq_left', exists_eq_left, dl_1, dl_2, eq_nn, ne_nn, rgD_hs, Int.toNat_natCast, List.length_map, cut40]
    exact c2 _ h13 _ h16
theorem c1_f (ht : ¬ t = 0) (hi : HiOk m f number holds s l) (hf : LiOk m f) (hm : m ≤ 12) (H : Hon holds s l told) (h13 : nMu s13) (h16 : nMu s16) (hN : ∀ g r ts s12 s13 s14 s15 s16, nMu s13 → nMu s16 → De.nx (lawE ns k g r m f t number holds s l ts s12 s13 s14 s15 s16)) :
    r_law_c1 De (lawE ns k g r m f t number holds s l (.mu (.lst (told.map oD))) s12 s13 s14 s15 s16) := by
  have c2 := fun s13 h13 s16 h16 => c2_ok (t := t) (k := k) (ns := ns) (g := g) (r := r) (s12 := s12) (s13 := s13) (s14 := s14) (s15 := s15) (s16 := s16) (De := De) hi hf hm H h13 h16 fun g r ts s12 s13 s14 s15 h => hN g r ts s12 s13 s14 s15 s16 h h16
  unfold r_law_c1
  unfold lawE at c2 ⊢
  simp only [↓e_C, ↓e_V, ↓e_Fz, ↓e_Op, ↓e_Un, ↓e_B, ↓e_Chain, ↓e_AndT, ↓e_OrT, ↓e_NotT, ↓e_AndV, ↓e_OrV, ↓e_NotV, ↓e_If, ↓e_Nil, ↓e_Cons, ↓e_Tup, ↓e_Lst, ↓e_CB, ↓e_CBN, ↓e_Isi, ↓e_TupRg1, ↓e_LstRg1, ↓e_TupRg2, ↓e_LstRg2, ↓e_ScrLen, ↓e_ScrAt, ↓e_SeqI, ↓e_Enum, ↓e_Rng1, ↓e_Rng2, ↓e_Seq, ↓e_Next, ↓e_Break, ↓e_Cont, ↓e_Drop, ↓e_Ret, ↓e_RetN, ↓e_Ret0, ↓e_IfS, ↓e_Asg, ↓e_AsgN, ↓e_AsgLc, ↓e_mNil, ↓e_mVal, ↓e_mNew, ↓e_Par, ↓e_For, ↓e_LoopN, ↓e_LoopC, ↓e_Lc, ↓e_Yes, ↓e_Call, ↓e_CallN, ↓e_Append, ↓e_Extend, ↓e_Pop, ↓e_PopAt, ↓e_SetAt, ↓e_Sl, ↓e_NoP, ↓e_P, ↓e_Aug, ↓e_SrtSet, optP_some, vaP_val, boP_val, inP_val, muP_lst, vals_nil, vals_cons, brP_t, brP_f, brP_d, brP_n, scrOf, rg1, rg2, lstAt, lsOf, nt_of, nt_0, nt_1, slotR, slNew, slMu, slOf, setAll, Dl.En.set, Dl.En.wipe, wipeL, noMu_n, noMu_c, isMu_v, isMu_u, isMu_e, isMu_s, tg_nm, Dl.tg_tup, tgs_nil, tgs_cons, fSl, Rv.d, Rv.m, muD, rvDs, obAt, rvOb, obget_s, obget_e, obput_s, obput_e, put_nil, put_one, conv, argOf, argSlot, argExt, obsMu, seqD, env0, argSl, p_mul, p_mod, p_div, p_pow, p_catT, p_catL, p_maxI, p_minI, List.map_cons, List.map_nil, List.replicate_succ, List.replicate_zero, List.length_cons, List.length_nil, List.nil_append, List.cons_append, List.append_nil, List.getElem?_cons_zero, List.getElem?_cons_succ, List.getElem?_nil, List.set_cons_zero, List.set_cons_succ, List.set_nil, Option.bind_some, Option.bind_none, Option.map_some, Option.map_none, Option.some.injEq, Option.isSome_some, List.all_cons, List.all_nil, List.contains_nil, Bool.and_true, Bool.not_false, Bool.true_and, Rv.val.injEq, PyData.int.injEq, PyData.bool.injEq, PyData.tuple.injEq, PyData.list.injEq, and_assoc, Prod.mk.injEq, reduceCtorEq, Mu.lst.injEq, Int.reducePow, Int.reduceNeg, Int.reduceLT, Int.reduceLE, Int.reduceMul, Int.reduceAdd, Int.reduceSub, Int.reduceToNat, Nat.reduceLT, Nat.reduceLeDiff, Nat.zero_le, or_true, true_or, and_self, not_false_eq_true, forall_const, implies_true, if_true_left, false_or, or_false, p_oD, cut2m, List.all_cons, not_true_eq_false, false_implies, isi_bi, isi_bn, isi_bb, isi_bt, isi_bs, isi_ti, isi_tn, isi_tb, isi_tt, isi_ts, isi_si, isi_sn, isi_sb, isi_st, isi_ss, isi_ii, isi_in, isi_ib, isi_it, isi_is, x_add, x_sub, x_neg, x_lt, x_le, x_gt, x_ge, x_eqI, x_neI, x_is, x_isNot, x_ixL, x_ixT, x_int, x_abs, x_lenL, x_lenT, x_tupL, x_tupT, x_lstL, x_lstT, x_max2, x_min2, at0, at1, at2, at3, atNat, x_inT, x_inL, x_notInT, x_notInL, x_all, x_any, x_sumI, x_nilI, x_nnilI, x_nnilJ, x_eqT, x_neT, x_eqO, x_eqOI, isNone_oD, oD_n, oD_s, decide_eq_true_eq, decide_eq_false_iff_not, true_and, and_true, Nat.sub_self, Nat.reduceSub, Nat.reduceAdd, ite_true, Option.some_inj, eq_self, isNone, Bool.not_true, Int.reduceEq, decide_true, decide_false, exists_eq_left', exists_eq_left, dl_1, dl_2, eq_nn, ne_nn, rgD_hs, Int.toNat_natCast, List.length_map, cut40]
  exact ⟨fun z => absurd z ht, fun _ => c2 _ h13 _ h16⟩
theorem c5_ok {s6 s7 s8 s9 s10 s11 : Sl} (hf : LiOk m f) (h1 : 1 ≤ m) (hm : m ≤ 12) (h13 : nMu s13) (h16 : nMu s16)
    (hN : ∀ g r s6 s7 s8 s9 s10 s11 s12 s13 s14 s15 s16, nMu s13 → nMu s16 → De.nx ⟨[.scr ns, .val (.int k), .mu (.lst [.int g, .int r]), .val (.int m), .val (tF f), .val (.int t), s6, s7, s8, s9, s10, s11, s12, s13, s14, s15, s16], []⟩) :
    r_law_c5 De ⟨[.scr ns, .val (.int k), .mu (.lst [.int g, .int r]), .val (.int m), .val (tF f), .val (.int t), s6, s7, s8, s9, s10, s11, s12, s13, s14, s15, s16], []⟩ := by
  unfold r_law_c5
  simp only [↓e_C, ↓e_V, ↓e_Fz, ↓e_Op, ↓e_Un, ↓e_B, ↓e_Chain, ↓e_AndT, ↓e_OrT, ↓e_NotT, ↓e_AndV, ↓e_OrV, ↓e_NotV, ↓e_If, ↓e_Nil, ↓e_Cons, ↓e_Tup, ↓e_Lst, ↓e_CB, ↓e_CBN, ↓e_Isi, ↓e_TupRg1, ↓e_LstRg1, ↓e_TupRg2, ↓e_LstRg2, ↓e_ScrLen, ↓e_ScrAt, ↓e_SeqI, ↓e_Enum, ↓e_Rng1, ↓e_Rng2, ↓e_Seq, ↓e_Next, ↓e_Break, ↓e_Cont, ↓e_Drop, ↓e_Ret, ↓e_RetN, ↓e_Ret0, ↓e_IfS, ↓e_Asg, ↓e_AsgN, ↓e_AsgLc, ↓e_mNil, ↓e_mVal, ↓e_mNew, ↓e_Par, ↓e_For, ↓e_LoopN, ↓e_LoopC, ↓e_Lc, ↓e_Yes, ↓e_Call, ↓e_CallN, ↓e_Append, ↓e_Extend, ↓e_Pop, ↓e_PopAt, ↓e_SetAt, ↓e_Sl, ↓e_NoP, ↓e_P, ↓e_Aug, ↓e_SrtSet, optP_some, vaP_val, boP_val, inP_val, muP_lst, vals_nil, vals_cons, brP_t, brP_f, brP_d, brP_n, scrOf, rg1, rg2, lstAt, lsOf, nt_of, nt_0, nt_1, slotR, slNew, slMu, slOf, setAll, Dl.En.set, Dl.En.wipe, wipeL, noMu_n, noMu_c, isMu_v, isMu_u, isMu_e, isMu_s, tg_nm, Dl.tg_tup, tgs_nil, tgs_cons, fSl, Rv.d, Rv.m, muD, rvDs, obAt, rvOb, obget_s, obget_e, obput_s, obput_e, put_nil, put_one, conv, argOf, argSlot, argExt, obsMu, seqD, env0, argSl, p_mul, p_mod, p_div, p_pow, p_catT, p_catL, p_maxI, p_minI, List.map_cons, List.map_nil, List.replicate_succ, List.replicate_zero, List.length_cons, List.length_nil, List.nil_append, List.cons_append, List.append_nil, List.getElem?_cons_zero, List.getElem?_cons_succ, List.getElem?_nil, List.set_cons_zero, List.set_cons_succ, List.set_nil, Option.bind_some, Option.bind_none, Option.map_some, Option.map_none, Option.some.injEq, Option.isSome_some, List.all_cons, List.all_nil, List.contains_nil, Bool.and_true, Bool.not_false, Bool.true_and, Rv.val.injEq, PyData.int.injEq, PyData.bool.injEq, PyData.tuple.injEq, PyData.list.injEq, and_assoc, Prod.mk.injEq, reduceCtorEq, Mu.lst.injEq, Int.reducePow, Int.reduceNeg, Int.reduceLT, Int.reduceLE, Int.reduceMul, Int.reduceAdd, Int.reduceSub, Int.reduceToNat, Nat.reduceLT, Nat.reduceLeDiff, Nat.zero_le, or_true, true_or, and_self, not_false_eq_true, forall_const, implies_true, if_true_left, false_or, or_false, p_oD, cut2m, List.all_cons, not_true_eq_false, false_implies, isi_bi, isi_bn, isi_bb, isi_bt, isi_bs, isi_ti, isi_tn, isi_tb, isi_tt, isi_ts, isi_si, isi_sn, isi_sb, isi_st, isi_ss, isi_ii, isi_in, isi_ib, isi_it, isi_is, x_add, x_sub, x_neg, x_lt, x_le, x_gt, x_ge, x_eqI, x_neI, x_is, x_isNot, x_ixL, x_ixT, x_int, x_abs, x_lenL, x_lenT, x_tupL, x_tupT, x_lstL, x_lstT, x_max2, x_min2, at0, at1, at2, at3, atNat, x_inT, x_inL, x_notInT, x_notInL, x_all, x_any, x_sumI, x_nilI, x_nnilI, x_nnilJ, x_eqT, x_neT, x_eqO, x_eqOI, isNone_oD, oD_n, oD_s, decide_eq_true_eq, decide_eq_false_iff_not, true_and, and_true, Nat.sub_self, Nat.reduceSub, Nat.reduceAdd, ite_true, Option.some_inj, eq_self, isNone, Bool.not_true, Int.reduceEq, decide_true, decide_false, exists_eq_left', exists_eq_left, dl_1, dl_2, eq_nn, ne_nn, rgD_hs, Int.toNat_natCast, List.length_map, cut40]
  refine box_history h1 hm hf fun number holds s l g r hi => ?_
  have hlm := hi.len
  have hn := hi.n1
  unfold hiD
  simp only [↓e_C, ↓e_V, ↓e_Fz, ↓e_Op, ↓e_Un, ↓e_B, ↓e_Chain, ↓e_AndT, ↓e_OrT, ↓e_NotT, ↓e_AndV, ↓e_OrV, ↓e_NotV, ↓e_If, ↓e_Nil, ↓e_Cons, ↓e_Tup, ↓e_Lst, ↓e_CB, ↓e_CBN, ↓e_Isi, ↓e_TupRg1, ↓e_LstRg1, ↓e_TupRg2, ↓e_LstRg2, ↓e_ScrLen, ↓e_ScrAt, ↓e_SeqI, ↓e_Enum, ↓e_Rng1, ↓e_Rng2, ↓e_Seq, ↓e_Next, ↓e_Break, ↓e_Cont, ↓e_Drop, ↓e_Ret, ↓e_RetN, ↓e_Ret0, ↓e_IfS, ↓e_Asg, ↓e_AsgN, ↓e_AsgLc, ↓e_mNil, ↓e_mVal, ↓e_mNew, ↓e_Par, ↓e_For, ↓e_LoopN, ↓e_LoopC, ↓e_Lc, ↓e_Yes, ↓e_Call, ↓e_CallN, ↓e_Append, ↓e_Extend, ↓e_Pop, ↓e_PopAt, ↓e_SetAt, ↓e_Sl, ↓e_NoP, ↓e_P, ↓e_Aug, ↓e_SrtSet, optP_some, vaP_val, boP_val, inP_val, muP_lst, vals_nil, vals_cons, brP_t, brP_f, brP_d, brP_n, scrOf, rg1, rg2, lstAt, lsOf, nt_of, nt_0, nt_1, slotR, slNew, slMu, slOf, setAll, Dl.En.set, Dl.En.wipe, wipeL, noMu_n, noMu_c, isMu_v, isMu_u, isMu_e, isMu_s, tg_nm, Dl.tg_tup, tgs_nil, tgs_cons, fSl, Rv.d, Rv.m, muD, rvDs, obAt, rvOb, obget_s, obget_e, obput_s, obput_e, put_nil, put_one, conv, argOf, argSlot, argExt, obsMu, seqD, env0, argSl, p_mul, p_mod, p_div, p_pow, p_catT, p_catL, p_maxI, p_minI, List.map_cons, List.map_nil, List.replicate_succ, List.replicate_zero, List.length_cons, List.length_nil, List.nil_append, List.cons_append, List.append_nil, List.getElem?_cons_zero, List.getElem?_cons_succ, List.getElem?_nil, List.set_cons_zero, List.set_cons_succ, List.set_nil, Option.bind_some, Option.bind_none, Option.map_some, Option.map_none, Option.some.injEq, Option.isSome_some, List.all_cons, List.all_nil, List.contains_nil, Bool.and_true, Bool.not_false, Bool.true_and, Rv.val.injEq, PyData.int.injEq, PyData.bool.injEq, PyData.tuple.injEq, PyData.list.injEq, and_assoc, Prod.mk.injEq, reduceCtorEq, Mu.lst.injEq, Int.reducePow, Int.reduceNeg, Int.reduceLT, Int.reduceLE, Int.reduceMul, Int.reduceAdd, Int.reduceSub, Int.reduceToNat, Nat.reduceLT, Nat.reduceLeDiff, Nat.zero_le, or_true, true_or, and_self, not_false_eq_true, forall_const, implies_true, if_true_left, false_or, or_false, p_oD, cut2m, List.all_cons, not_true_eq_false, false_implies, isi_bi, isi_bn, isi_bb, isi_bt, isi_bs, isi_ti, isi_tn, isi_tb, isi_tt, isi_ts, isi_si, isi_sn, isi_sb, isi_st, isi_ss, isi_ii, isi_in, isi_ib, isi_it, isi_is, x_add, x_sub, x_neg, x_lt, x_le, x_gt, x_ge, x_eqI, x_neI, x_is, x_isNot, x_ixL, x_ixT, x_int, x_abs, x_lenL, x_lenT, x_tupL, x_tupT, x_lstL, x_lstT, x_max2, x_min2, at0, at1, at2, at3, atNat, x_inT, x_inL, x_notInT, x_notInL, x_all, x_any, x_sumI, x_nilI, x_nnilI, x_nnilJ, x_eqT, x_neT, x_eqO, x_eqOI, isNone_oD, oD_n, oD_s, decide_eq_true_eq, decide_eq_false_iff_not, true_and, and_true, Nat.sub_self, Nat.reduceSub, Nat.reduceAdd, ite_true, Option.some_inj, eq_self, isNone, Bool.not_true, Int.reduceEq, decide_true, decide_false, exists_eq_left', exists_eq_left, dl_1, dl_2, eq_nn, ne_nn, rgD_hs, Int.toNat_natCast, List.length_map, cut40]
  by_cases ht : t = 0
  · subst ht
    refine orS_r ?_
    simp only [↓e_C, ↓e_V, ↓e_Fz, ↓e_Op, ↓e_Un, ↓e_B, ↓e_Chain, ↓e_AndT, ↓e_OrT, ↓e_NotT, ↓e_AndV, ↓e_OrV, ↓e_NotV, ↓e_If, ↓e_Nil, ↓e_Cons, ↓e_Tup, ↓e_Lst, ↓e_CB, ↓e_CBN, ↓e_Isi, ↓e_TupRg1, ↓e_LstRg1, ↓e_TupRg2, ↓e_LstRg2, ↓e_ScrLen, ↓e_ScrAt, ↓e_SeqI, ↓e_Enum, ↓e_Rng1, ↓e_Rng2, ↓e_Seq, ↓e_Next, ↓e_Break, ↓e_Cont, ↓e_Drop, ↓e_Ret, ↓e_RetN, ↓e_Ret0, ↓e_IfS, ↓e_Asg, ↓e_AsgN, ↓e_AsgLc, ↓e_mNil, ↓e_mVal, ↓e_mNew, ↓e_Par, ↓e_For, ↓e_LoopN, ↓e_LoopC, ↓e_Lc, ↓e_Yes, ↓e_Call, ↓e_CallN, ↓e_Append, ↓e_Extend, ↓e_Pop, ↓e_PopAt, ↓e_SetAt, ↓e_Sl, ↓e_NoP, ↓e_P, ↓e_Aug, ↓e_SrtSet, optP_some, vaP_val, boP_val, inP_val, muP_lst, vals_nil, vals_cons, brP_t, brP_f, brP_d, brP_n, scrOf, rg1, rg2, lstAt, lsOf, nt_of, nt_0, nt_1, slotR, slNew, slMu, slOf, setAll, Dl.En.set, Dl.En.wipe, wipeL, noMu_n, noMu_c, isMu_v, isMu_u, isMu_e, isMu_s, tg_nm, Dl.tg_tup, tgs_nil, tgs_cons, fSl, Rv.d, Rv.m, muD, rvDs, obAt, rvOb, obget_s, obget_e, obput_s, obput_e, put_nil, put_one, conv, argOf, argSlot, argExt, obsMu, seqD, env0, argSl, p_mul, p_mod, p_div, p_pow, p_catT, p_catL, p_maxI, p_minI, List.map_cons, List.map_nil, List.replicate_succ, List.replicate_zero, List.length_cons, List.length_nil, List.nil_append, List.cons_append, List.append_nil, List.getElem?_cons_zero, List.getElem?_cons_succ, List.getElem?_nil, List.set_cons_zero, List.set_cons_succ, List.set_nil, Option.bind_some, Option.bind_none, Option.map_some, Option.map_none, Option.some.injEq, Option.isSome_some, List.all_cons, List.all_nil, List.contains_nil, Bool.and_true, Bool.not_false, Bool.true_and, Rv.val.injEq, PyData.int.injEq, PyData.bool.injEq, PyData.tuple.injEq, PyData.list.injEq, and_assoc, Prod.mk.injEq, reduceCtorEq, Mu.lst.injEq, Int.reducePow, Int.reduceNeg, Int.reduceLT, Int.reduceLE, Int.reduceMul, Int.reduceAdd, Int.reduceSub, Int.reduceToNat, Nat.reduceLT, Nat.reduceLeDiff, Nat.zero_le, or_true, true_or, and_self, not_false_eq_true, forall_const, implies_true, if_true_left, false_or, or_false, p_oD, cut2m, List.all_cons, not_true_eq_false, false_implies, isi_bi, isi_bn, isi_bb, isi_bt, isi_bs, isi_ti, isi_tn, isi_tb, isi_tt, isi_ts, isi_si, isi_sn, isi_sb, isi_st, isi_ss, isi_ii, isi_in, isi_ib, isi_it, isi_is, x_add, x_sub, x_neg, x_lt, x_le, x_gt, x_ge, x_eqI, x_neI, x_is, x_isNot, x_ixL, x_ixT, x_int, x_abs, x_lenL, x_lenT, x_tupL, x_tupT, x_lstL, x_lstT, x_max2, x_min2, at0, at1, at2, at3, atNat, x_inT, x_inL, x_notInT, x_notInL, x_all, x_any, x_sumI, x_nilI, x_nnilI, x_nnilJ, x_eqT, x_neT, x_eqO, x_eqOI, isNone_oD, oD_n, oD_s, decide_eq_true_eq, decide_eq_false_iff_not, true_and, and_true, Nat.sub_self, Nat.reduceSub, Nat.reduceAdd, ite_true, Option.some_inj, eq_self, isNone, Bool.not_true, Int.reduceEq, decide_true, decide_false, exists_eq_left', exists_eq_left, dl_1, dl_2, eq_nn, ne_nn, rgD_hs, Int.toNat_natCast, List.length_map, cut40]
    refine box_told hi.n0 (by omega) (by omega) hi.le fun told g r htd => ?_
    simp only [↓e_C, ↓e_V, ↓e_Fz, ↓e_Op, ↓e_Un, ↓e_B, ↓e_Chain, ↓e_AndT, ↓e_OrT, ↓e_NotT, ↓e_AndV, ↓e_OrV, ↓e_NotV, ↓e_If, ↓e_Nil, ↓e_Cons, ↓e_Tup, ↓e_Lst, ↓e_CB, ↓e_CBN, ↓e_Isi, ↓e_TupRg1, ↓e_LstRg1, ↓e_TupRg2, ↓e_LstRg2, ↓e_ScrLen, ↓e_ScrAt, ↓e_SeqI, ↓e_Enum, ↓e_Rng1, ↓e_Rng2, ↓e_Seq, ↓e_Next, ↓e_Break, ↓e_Cont, ↓e_Drop, ↓e_Ret, ↓e_RetN, ↓e_Ret0, ↓e_IfS, ↓e_Asg, ↓e_AsgN, ↓e_AsgLc, ↓e_mNil, ↓e_mVal, ↓e_mNew, ↓e_Par, ↓e_For, ↓e_LoopN, ↓e_LoopC, ↓e_Lc, ↓e_Yes, ↓e_Call, ↓e_CallN, ↓e_Append, ↓e_Extend, ↓e_Pop, ↓e_PopAt, ↓e_SetAt, ↓e_Sl, ↓e_NoP, ↓e_P, ↓e_Aug, ↓e_SrtSet, optP_some, vaP_val, boP_val, inP_val, muP_lst, vals_nil, vals_cons, brP_t, brP_f, brP_d, brP_n, scrOf, rg1, rg2, lstAt, lsOf, nt_of, nt_0, nt_1, slotR, slNew, slMu, slOf, setAll, Dl.En.set, Dl.En.wipe, wipeL, noMu_n, noMu_c, isMu_v, isMu_u, isMu_e, isMu_s, tg_nm, Dl.tg_tup, tgs_nil, tgs_cons, fSl, Rv.d, Rv.m, muD, rvDs, obAt, rvOb, obget_s, obget_e, obput_s, obput_e, put_nil, put_one, conv, argOf, argSlot, argExt, obsMu, seqD, env0, argSl, p_mul, p_mod, p_div, p_pow, p_catT, p_catL, p_maxI, p_minI, List.map_cons, List.map_nil, List.replicate_succ, List.replicate_zero, List.length_cons, List.length_nil, List.nil_append, List.cons_append, List.append_nil, List.getElem?_cons_zero, List.getElem?_cons_succ, List.getElem?_nil, List.set_cons_zero, List.set_cons_succ, List.set_nil, Option.bind_some, Option.bind_none, Option.map_some, Option.map_none, Option.some.injEq, Option.isSome_some, List.all_cons, List.all_nil, List.contains_nil, Bool.and_true, Bool.not_false, Bool.true_and, Rv.val.injEq, PyData.int.injEq, PyData.bool.injEq, PyData.tuple.injEq, PyData.list.injEq, and_assoc, Prod.mk.injEq, reduceCtorEq, Mu.lst.injEq, Int.reducePow, Int.reduceNeg, Int.reduceLT, Int.reduceLE, Int.reduceMul, Int.reduceAdd, Int.reduceSub, Int.reduceToNat, Nat.reduceLT, Nat.reduceLeDiff, Nat.zero_le, or_true, true_or, and_self, not_false_eq_true, forall_const, implies_true, if_true_left, false_or, or_false, p_oD, cut2m, List.all_cons, not_true_eq_false, false_implies, isi_bi, isi_bn, isi_bb, isi_bt, isi_bs, isi_ti, isi_tn, isi_tb, isi_tt, isi_ts, isi_si, isi_sn, isi_sb, isi_st, isi_ss, isi_ii, isi_in, isi_ib, isi_it, isi_is, x_add, x_sub, x_neg, x_lt, x_le, x_gt, x_ge, x_eqI, x_neI, x_is, x_isNot, x_ixL, x_ixT, x_int, x_abs, x_lenL, x_lenT, x_tupL, x_tupT, x_lstL, x_lstT, x_max2, x_min2, at0, at1, at2, at3, atNat, x_inT, x_inL, x_notInT, x_notInL, x_all, x_any, x_sumI, x_nilI, x_nnilI, x_nnilJ, x_eqT, x_neT, x_eqO, x_eqOI, isNone_oD, oD_n, oD_s, decide_eq_true_eq, decide_eq_false_iff_not, true_and, and_true, Nat.sub_self, Nat.reduceSub, Nat.reduceAdd, ite_true, Option.some_inj, eq_self, isNone, Bool.not_true, Int.reduceEq, decide_true, decide_false, exists_eq_left', exists_eq_left, dl_1, dl_2, eq_nn, ne_nn, rgD_hs, Int.toNat_natCast, List.length_map, cut40]
    exact c1_t hi hf hm (Hon.of hi hf htd) h13 h16 fun g r ts s12 s13 s14 s15 s16 q13 q16 => hN _ _ _ _ _ _ _ _ _ _ _ _ _ q13 q16
  · refine orS_l ?_
    simp only [↓e_C, ↓e_V, ↓e_Fz, ↓e_Op, ↓e_Un, ↓e_B, ↓e_Chain, ↓e_AndT, ↓e_OrT, ↓e_NotT, ↓e_AndV, ↓e_OrV, ↓e_NotV, ↓e_If, ↓e_Nil, ↓e_Cons, ↓e_Tup, ↓e_Lst, ↓e_CB, ↓e_CBN, ↓e_Isi, ↓e_TupRg1, ↓e_LstRg1, ↓e_TupRg2, ↓e_LstRg2, ↓e_ScrLen, ↓e_ScrAt, ↓e_SeqI, ↓e_Enum, ↓e_Rng1, ↓e_Rng2, ↓e_Seq, ↓e_Next, ↓e_Break, ↓e_Cont, ↓e_Drop, ↓e_Ret, ↓e_RetN, ↓e_Ret0, ↓e_IfS, ↓e_Asg, ↓e_AsgN, ↓e_AsgLc, ↓e_mNil, ↓e_mVal, ↓e_mNew, ↓e_Par, ↓e_For, ↓e_LoopN, ↓e_LoopC, ↓e_Lc, ↓e_Yes, ↓e_Call, ↓e_CallN, ↓e_Append, ↓e_Extend, ↓e_Pop, ↓e_PopAt, ↓e_SetAt, ↓e_Sl, ↓e_NoP, ↓e_P, ↓e_Aug, ↓e_SrtSet, optP_some, vaP_val, boP_val, inP_val, muP_lst, vals_nil, vals_cons, brP_t, brP_f, brP_d, brP_n, scrOf, rg1, rg2, lstAt, lsOf, nt_of, nt_0, nt_1, slotR, slNew, slMu, slOf, setAll, Dl.En.set, Dl.En.wipe, wipeL, noMu_n, noMu_c, isMu_v, isMu_u, isMu_e, isMu_s, tg_nm, Dl.tg_tup, tgs_nil, tgs_cons, fSl, Rv.d, Rv.m, muD, rvDs, obAt, rvOb, obget_s, obget_e, obput_s, obput_e, put_nil, put_one, conv, argOf, argSlot, argExt, obsMu, seqD, env0, argSl, p_mul, p_mod, p_div, p_pow, p_catT, p_catL, p_maxI, p_minI, List.map_cons, List.map_nil, List.replicate_succ, List.replicate_zero, List.length_cons, List.length_nil, List.nil_append, List.cons_append, List.append_nil, List.getElem?_cons_zero, List.getElem?_cons_succ, List.getElem?_nil, List.set_cons_zero, List.set_cons_succ, List.set_nil, Option.bind_some, Option.bind_none, Option.map_some, Option.map_none, Option.some.injEq, Option.isSome_some, List.all_cons, List.all_nil, List.contains_nil, Bool.and_true, Bool.not_false, Bool.true_and, Rv.val.injEq, PyData.int.injEq, PyData.bool.injEq, PyData.tuple.injEq, PyData.list.injEq, and_assoc, Prod.mk.injEq, reduceCtorEq, Mu.lst.injEq, Int.reducePow, Int.reduceNeg, Int.reduceLT, Int.reduceLE, Int.reduceMul, Int.reduceAdd, Int.reduceSub, Int.reduceToNat, Nat.reduceLT, Nat.reduceLeDiff, Nat.zero_le, or_true, true_or, and_self, not_false_eq_true, forall_const, implies_true, if_true_left, false_or, or_false, p_oD, cut2m, List.all_cons, not_true_eq_false, false_implies, isi_bi, isi_bn, isi_bb, isi_bt, isi_bs, isi_ti, isi_tn, isi_tb, isi_tt, isi_ts, isi_si, isi_sn, isi_sb, isi_st, isi_ss, isi_ii, isi_in, isi_ib, isi_it, isi_is, x_add, x_sub, x_neg, x_lt, x_le, x_gt, x_ge, x_eqI, x_neI, x_is, x_isNot, x_ixL, x_ixT, x_int, x_abs, x_lenL, x_lenT, x_tupL, x_tupT, x_lstL, x_lstT, x_max2, x_min2, at0, at1, at2, at3, atNat, x_inT, x_inL, x_notInT, x_notInL, x_all, x_any, x_sumI, x_nilI, x_nnilI, x_nnilJ, x_eqT, x_neT, x_eqO, x_eqOI, isNone_oD, oD_n, oD_s, decide_eq_true_eq, decide_eq_false_iff_not, true_and, and_true, Nat.sub_self, Nat.reduceSub, Nat.reduceAdd, ite_true, Option.some_inj, eq_self, isNone, Bool.not_true, Int.reduceEq, decide_true, decide_false, exists_eq_left', exists_eq_left, dl_1, dl_2, eq_nn, ne_nn, rgD_hs, Int.toNat_natCast, List.length_map, cut40]
    refine box_told hi.n0 (by omega) (by omega) hi.le fun told g r htd => ?_
    simp only [↓e_C, ↓e_V, ↓e_Fz, ↓e_Op, ↓e_Un, ↓e_B, ↓e_Chain, ↓e_AndT, ↓e_OrT, ↓e_NotT, ↓e_AndV, ↓e_OrV, ↓e_NotV, ↓e_If, ↓e_Nil, ↓e_Cons, ↓e_Tup, ↓e_Lst, ↓e_CB, ↓e_CBN, ↓e_Isi, ↓e_TupRg1, ↓e_LstRg1, ↓e_TupRg2, ↓e_LstRg2, ↓e_ScrLen, ↓e_ScrAt, ↓e_SeqI, ↓e_Enum, ↓e_Rng1, ↓e_Rng2, ↓e_Seq, ↓e_Next, ↓e_Break, ↓e_Cont, ↓e_Drop, ↓e_Ret, ↓e_RetN, ↓e_Ret0, ↓e_IfS, ↓e_Asg, ↓e_AsgN, ↓e_AsgLc, ↓e_mNil, ↓e_mVal, ↓e_mNew, ↓e_Par, ↓e_For, ↓e_LoopN, ↓e_LoopC, ↓e_Lc, ↓e_Yes, ↓e_Call, ↓e_CallN, ↓e_Append, ↓e_Extend, ↓e_Pop, ↓e_PopAt, ↓e_SetAt, ↓e_Sl, ↓e_NoP, ↓e_P, ↓e_Aug, ↓e_SrtSet, optP_some, vaP_val, boP_val, inP_val, muP_lst, vals_nil, vals_cons, brP_t, brP_f, brP_d, brP_n, scrOf, rg1, rg2, lstAt, lsOf, nt_of, nt_0, nt_1, slotR, slNew, slMu, slOf, setAll, Dl.En.set, Dl.En.wipe, wipeL, noMu_n, noMu_c, isMu_v, isMu_u, isMu_e, isMu_s, tg_nm, Dl.tg_tup, tgs_nil, tgs_cons, fSl, Rv.d, Rv.m, muD, rvDs, obAt, rvOb, obget_s, obget_e, obput_s, obput_e, put_nil, put_one, conv, argOf, argSlot, argExt, obsMu, seqD, env0, argSl, p_mul, p_mod, p_div, p_pow, p_catT, p_catL, p_maxI, p_minI, List.map_cons, List.map_nil, List.replicate_succ, List.replicate_zero, List.length_cons, List.length_nil, List.nil_append, List.cons_append, List.append_nil, List.getElem?_cons_zero, List.getElem?_cons_succ, List.getElem?_nil, List.set_cons_zero, List.set_cons_succ, List.set_nil, Option.bind_some, Option.bind_none, Option.map_some, Option.map_none, Option.some.injEq, Option.isSome_some, List.all_cons, List.all_nil, List.contains_nil, Bool.and_true, Bool.not_false, Bool.true_and, Rv.val.injEq, PyData.int.injEq, PyData.bool.injEq, PyData.tuple.injEq, PyData.list.injEq, and_assoc, Prod.mk.injEq, reduceCtorEq, Mu.lst.injEq, Int.reducePow, Int.reduceNeg, Int.reduceLT, Int.reduceLE, Int.reduceMul, Int.reduceAdd, Int.reduceSub, Int.reduceToNat, Nat.reduceLT, Nat.reduceLeDiff, Nat.zero_le, or_true, true_or, and_self, not_false_eq_true, forall_const, implies_true, if_true_left, false_or, or_false, p_oD, cut2m, List.all_cons, not_true_eq_false, false_implies, isi_bi, isi_bn, isi_bb, isi_bt, isi_bs, isi_ti, isi_tn, isi_tb, isi_tt, isi_ts, isi_si, isi_sn, isi_sb, isi_st, isi_ss, isi_ii, isi_in, isi_ib, isi_it, isi_is, x_add, x_sub, x_neg, x_lt, x_le, x_gt, x_ge, x_eqI, x_neI, x_is, x_isNot, x_ixL, x_ixT, x_int, x_abs, x_lenL, x_lenT, x_tupL, x_tupT, x_lstL, x_lstT, x_max2, x_min2, at0, at1, at2, at3, atNat, x_inT, x_inL, x_notInT, x_notInL, x_all, x_any, x_sumI, x_nilI, x_nnilI, x_nnilJ, x_eqT, x_neT, x_eqO, x_eqOI, isNone_oD, oD_n, oD_s, decide_eq_true_eq, decide_eq_false_iff_not, true_and, and_true, Nat.sub_self, Nat.reduceSub, Nat.reduceAdd, ite_true, Option.some_inj, eq_self, isNone, Bool.not_true, Int.reduceEq, decide_true, decide_false, exists_eq_left', exists_eq_left, dl_1, dl_2, eq_nn, ne_nn, rgD_hs, Int.toNat_natCast, List.length_map, cut40]
    exact c1_f ht hi hf hm (Hon.of hi hf htd) h13 h16 fun g r ts s12 s13 s14 s15 s16 q13 q16 => hN _ _ _ _ _ _ _ _ _ _ _ _ _ q13 q16
end
theorem pure_law : PureOk T_law 1 17 r_law := by
  rintro _ xt Q _ ⟨ns, rfl, rfl, q⟩
  unfold r_law
  simp only [↓e_C, ↓e_V, ↓e_Fz, ↓e_Op, ↓e_Un, ↓e_B, ↓e_Chain, ↓e_AndT, ↓e_OrT, ↓e_NotT, ↓e_AndV, ↓e_OrV, ↓e_NotV, ↓e_If, ↓e_Nil, ↓e_Cons, ↓e_Tup, ↓e_Lst, ↓e_CB, ↓e_CBN, ↓e_Isi, ↓e_TupRg1, ↓e_LstRg1, ↓e_TupRg2, ↓e_LstRg2, ↓e_ScrLen, ↓e_ScrAt, ↓e_SeqI, ↓e_Enum, ↓e_Rng1, ↓e_Rng2, ↓e_Seq, ↓e_Next, ↓e_Break, ↓e_Cont, ↓e_Drop, ↓e_Ret, ↓e_RetN, ↓e_Ret0, ↓e_IfS, ↓e_Asg, ↓e_AsgN, ↓e_AsgLc, ↓e_mNil, ↓e_mVal, ↓e_mNew, ↓e_Par, ↓e_For, ↓e_LoopN, ↓e_LoopC, ↓e_Lc, ↓e_Yes, ↓e_Call, ↓e_CallN, ↓e_Append, ↓e_Extend, ↓e_Pop, ↓e_PopAt, ↓e_SetAt, ↓e_Sl, ↓e_NoP, ↓e_P, ↓e_Aug, ↓e_SrtSet, optP_some, vaP_val, boP_val, inP_val, muP_lst, vals_nil, vals_cons, brP_t, brP_f, brP_d, brP_n, scrOf, rg1, rg2, lstAt, lsOf, nt_of, nt_0, nt_1, slotR, slNew, slMu, slOf, setAll, Dl.En.set, Dl.En.wipe, wipeL, noMu_n, noMu_c, isMu_v, isMu_u, isMu_e, isMu_s, tg_nm, Dl.tg_tup, tgs_nil, tgs_cons, fSl, Rv.d, Rv.m, muD, rvDs, obAt, rvOb, obget_s, obget_e, obput_s, obput_e, put_nil, put_one, conv, argOf, argSlot, argExt, obsMu, seqD, env0, argSl, p_mul, p_mod, p_div, p_pow, p_catT, p_catL, p_maxI, p_minI, List.map_cons, List.map_nil, List.replicate_succ, List.replicate_zero, List.length_cons, List.length_nil, List.nil_append, List.cons_append, List.append_nil, List.getElem?_cons_zero, List.getElem?_cons_succ, List.getElem?_nil, List.set_cons_zero, List.set_cons_succ, List.set_nil, Option.bind_some, Option.bind_none, Option.map_some, Option.map_none, Option.some.injEq, Option.isSome_some, List.all_cons, List.all_nil, List.contains_nil, Bool.and_true, Bool.not_false, Bool.true_and, Rv.val.injEq, PyData.int.injEq, PyData.bool.injEq, PyData.tuple.injEq, PyData.list.injEq, and_assoc, Prod.mk.injEq, reduceCtorEq, Mu.lst.injEq, Int.reducePow, Int.reduceNeg, Int.reduceLT, Int.reduceLE, Int.reduceMul, Int.reduceAdd, Int.reduceSub, Int.reduceToNat, Nat.reduceLT, Nat.reduceLeDiff, Nat.zero_le, or_true, true_or, and_self, not_false_eq_true, forall_const, implies_true, if_true_left, false_or, or_false, p_oD, cut2m, List.all_cons, not_true_eq_false, false_implies, isi_bi, isi_bn, isi_bb, isi_bt, isi_bs, isi_ti, isi_tn, isi_tb, isi_tt, isi_ts, isi_si, isi_sn, isi_sb, isi_st, isi_ss, isi_ii, isi_in, isi_ib, isi_it, isi_is, x_add, x_sub, x_neg, x_lt, x_le, x_gt, x_ge, x_eqI, x_neI, x_is, x_isNot, x_ixL, x_ixT, x_int, x_abs, x_lenL, x_lenT, x_tupL, x_tupT, x_lstL, x_lstT, x_max2, x_min2, at0, at1, at2, at3, atNat, x_inT, x_inL, x_notInT, x_notInL, x_all, x_any, x_sumI, x_nilI, x_nnilI, x_nnilJ, x_eqT, x_neT, x_eqO, x_eqOI, isNone_oD, oD_n, oD_s, decide_eq_true_eq, decide_eq_false_iff_not, true_and, and_true, Nat.sub_self, Nat.reduceSub, Nat.reduceAdd, ite_true, Option.some_inj, eq_self, isNone, Bool.not_true, Int.reduceEq, decide_true, decide_false, exists_eq_left', exists_eq_left, dl_1, dl_2, eq_nn, ne_nn, rgD_hs, Int.toNat_natCast, List.length_map, cut40]
  refine ⟨[[0, 1], [2]], [some 9, some 9, some 3], rfl, by simp, by simp, ?_⟩
  have n1 : newest [[0, 1], [2]] [some 9, some 9, some 3] = none := by decide
  have n2 : newest [[0, 1], [2]] [some 9, some 4, some 4] = some 4 := by decide
  rw [n1]
  simp only [↓e_C, ↓e_V, ↓e_Fz, ↓e_Op, ↓e_Un, ↓e_B, ↓e_Chain, ↓e_AndT, ↓e_OrT, ↓e_NotT, ↓e_AndV, ↓e_OrV, ↓e_NotV, ↓e_If, ↓e_Nil, ↓e_Cons, ↓e_Tup, ↓e_Lst, ↓e_CB, ↓e_CBN, ↓e_Isi, ↓e_TupRg1, ↓e_LstRg1, ↓e_TupRg2, ↓e_LstRg2, ↓e_ScrLen, ↓e_ScrAt, ↓e_SeqI, ↓e_Enum, ↓e_Rng1, ↓e_Rng2, ↓e_Seq, ↓e_Next, ↓e_Break, ↓e_Cont, ↓e_Drop, ↓e_Ret, ↓e_RetN, ↓e_Ret0, ↓e_IfS, ↓e_Asg, ↓e_AsgN, ↓e_AsgLc, ↓e_mNil, ↓e_mVal, ↓e_mNew, ↓e_Par, ↓e_For, ↓e_LoopN, ↓e_LoopC, ↓e_Lc, ↓e_Yes, ↓e_Call, ↓e_CallN, ↓e_Append, ↓e_Extend, ↓e_Pop, ↓e_PopAt, ↓e_SetAt, ↓e_Sl, ↓e_NoP, ↓e_P, ↓e_Aug, ↓e_SrtSet, optP_some, vaP_val, boP_val, inP_val, muP_lst, vals_nil, vals_cons, brP_t, brP_f, brP_d, brP_n, scrOf, rg1, rg2, lstAt, lsOf, nt_of, nt_0, nt_1, slotR, slNew, slMu, slOf, setAll, Dl.En.set, Dl.En.wipe, wipeL, noMu_n, noMu_c, isMu_v, isMu_u, isMu_e, isMu_s, tg_nm, Dl.tg_tup, tgs_nil, tgs_cons, fSl, Rv.d, Rv.m, muD, rvDs, obAt, rvOb, obget_s, obget_e, obput_s, obput_e, put_nil, put_one, conv, argOf, argSlot, argExt, obsMu, seqD, env0, argSl, p_mul, p_mod, p_div, p_pow, p_catT, p_catL, p_maxI, p_minI, List.map_cons, List.map_nil, List.replicate_succ, List.replicate_zero, List.length_cons, List.length_nil, List.nil_append, List.cons_append, List.append_nil, List.getElem?_cons_zero, List.getElem?_cons_succ, List.getElem?_nil, List.set_cons_zero, List.set_cons_succ, List.set_nil, Option.bind_some, Option.bind_none, Option.map_some, Option.map_none, Option.some.injEq, Option.isSome_some, List.all_cons, List.all_nil, List.contains_nil, Bool.and_true, Bool.not_false, Bool.true_and, Rv.val.injEq, PyData.int.injEq, PyData.bool.injEq, PyData.tuple.injEq, PyData.list.injEq, and_assoc, Prod.mk.injEq, reduceCtorEq, Mu.lst.injEq, Int.reducePow, Int.reduceNeg, Int.reduceLT, Int.reduceLE, Int.reduceMul, Int.reduceAdd, Int.reduceSub, Int.reduceToNat, Nat.reduceLT, Nat.reduceLeDiff, Nat.zero_le, or_true, true_or, and_self, not_false_eq_true, forall_const, implies_true, if_true_left, false_or, or_false, p_oD, cut2m, List.all_cons, not_true_eq_false, false_implies, isi_bi, isi_bn, isi_bb, isi_bt, isi_bs, isi_ti, isi_tn, isi_tb, isi_tt, isi_ts, isi_si, isi_sn, isi_sb, isi_st, isi_ss, isi_ii, isi_in, isi_ib, isi_it, isi_is, x_add, x_sub, x_neg, x_lt, x_le, x_gt, x_ge, x_eqI, x_neI, x_is, x_isNot, x_ixL, x_ixT, x_int, x_abs, x_lenL, x_lenT, x_tupL, x_tupT, x_lstL, x_lstT, x_max2, x_min2, at0, at1, at2, at3, atNat, x_inT, x_inL, x_notInT, x_notInL, x_all, x_any, x_sumI, x_nilI, x_nnilI, x_nnilJ, x_eqT, x_neT, x_eqO, x_eqOI, isNone_oD, oD_n, oD_s, decide_eq_true_eq, decide_eq_false_iff_not, true_and, and_true, Nat.sub_self, Nat.reduceSub, Nat.reduceAdd, ite_true, Option.some_inj, eq_self, isNone, Bool.not_true, Int.reduceEq, decide_true, decide_false, exists_eq_left', exists_eq_left, dl_1, dl_2, eq_nn, ne_nn, rgD_hs, Int.toNat_natCast, List.length_map, cut40]
  refine ⟨[[0, 1], [2]], [some 9, some 4, some 4], rfl, by simp, by simp, ?_⟩
  rw [n2]
  simp only [↓e_C, ↓e_V, ↓e_Fz, ↓e_Op, ↓e_Un, ↓e_B, ↓e_Chain, ↓e_AndT, ↓e_OrT, ↓e_NotT, ↓e_AndV, ↓e_OrV, ↓e_NotV, ↓e_If, ↓e_Nil, ↓e_Cons, ↓e_Tup, ↓e_Lst, ↓e_CB, ↓e_CBN, ↓e_Isi, ↓e_TupRg1, ↓e_LstRg1, ↓e_TupRg2, ↓e_LstRg2, ↓e_ScrLen, ↓e_ScrAt, ↓e_SeqI, ↓e_Enum, ↓e_Rng1, ↓e_Rng2, ↓e_Seq, ↓e_Next, ↓e_Break, ↓e_Cont, ↓e_Drop, ↓e_Ret, ↓e_RetN, ↓e_Ret0, ↓e_IfS, ↓e_Asg, ↓e_AsgN, ↓e_AsgLc, ↓e_mNil, ↓e_mVal, ↓e_mNew, ↓e_Par, ↓e_For, ↓e_LoopN, ↓e_LoopC, ↓e_Lc, ↓e_Yes, ↓e_Call, ↓e_CallN, ↓e_Append, ↓e_Extend, ↓e_Pop, ↓e_PopAt, ↓e_SetAt, ↓e_Sl, ↓e_NoP, ↓e_P, ↓e_Aug, ↓e_SrtSet, optP_some, vaP_val, boP_val, inP_val, muP_lst, vals_nil, vals_cons, brP_t, brP_f, brP_d, brP_n, scrOf, rg1, rg2, lstAt, lsOf, nt_of, nt_0, nt_1, slotR, slNew, slMu, slOf, setAll, Dl.En.set, Dl.En.wipe, wipeL, noMu_n, noMu_c, isMu_v, isMu_u, isMu_e, isMu_s, tg_nm, Dl.tg_tup, tgs_nil, tgs_cons, fSl, Rv.d, Rv.m, muD, rvDs, obAt, rvOb, obget_s, obget_e, obput_s, obput_e, put_nil, put_one, conv, argOf, argSlot, argExt, obsMu, seqD, env0, argSl, p_mul, p_mod, p_div, p_pow, p_catT, p_catL, p_maxI, p_minI, List.map_cons, List.map_nil, List.replicate_succ, List.replicate_zero, List.length_cons, List.length_nil, List.nil_append, List.cons_append, List.append_nil, List.getElem?_cons_zero, List.getElem?_cons_succ, List.getElem?_nil, List.set_cons_zero, List.set_cons_succ, List.set_nil, Option.bind_some, Option.bind_none, Option.map_some, Option.map_none, Option.some.injEq, Option.isSome_some, List.all_cons, List.all_nil, List.contains_nil, Bool.and_true, Bool.not_false, Bool.true_and, Rv.val.injEq, PyData.int.injEq, PyData.bool.injEq, PyData.tuple.injEq, PyData.list.injEq, and_assoc, Prod.mk.injEq, reduceCtorEq, Mu.lst.injEq, Int.reducePow, Int.reduceNeg, Int.reduceLT, Int.reduceLE, Int.reduceMul, Int.reduceAdd, Int.reduceSub, Int.reduceToNat, Nat.reduceLT, Nat.reduceLeDiff, Nat.zero_le, or_true, true_or, and_self, not_false_eq_true, forall_const, implies_true, if_true_left, false_or, or_false, p_oD, cut2m, List.all_cons, not_true_eq_false, false_implies, isi_bi, isi_bn, isi_bb, isi_bt, isi_bs, isi_ti, isi_tn, isi_tb, isi_tt, isi_ts, isi_si, isi_sn, isi_sb, isi_st, isi_ss, isi_ii, isi_in, isi_ib, isi_it, isi_is, x_add, x_sub, x_neg, x_lt, x_le, x_gt, x_ge, x_eqI, x_neI, x_is, x_isNot, x_ixL, x_ixT, x_int, x_abs, x_lenL, x_lenT, x_tupL, x_tupT, x_lstL, x_lstT, x_max2, x_min2, at0, at1, at2, at3, atNat, x_inT, x_inL, x_notInT, x_notInL, x_all, x_any, x_sumI, x_nilI, x_nnilI, x_nnilJ, x_eqT, x_neT, x_eqO, x_eqOI, isNone_oD, oD_n, oD_s, decide_eq_true_eq, decide_eq_false_iff_not, true_and, and_true, Nat.sub_self, Nat.reduceSub, Nat.reduceAdd, ite_true, Option.some_inj, eq_self, isNone, Bool.not_true, Int.reduceEq, decide_true, decide_false, exists_eq_left', exists_eq_left, dl_1, dl_2, eq_nn, ne_nn, rgD_hs, Int.toNat_natCast, List.length_map, cut40]
  refine ⟨some 4, some 4, rfl, ?_⟩
  simp only [↓e_C, ↓e_V, ↓e_Fz, ↓e_Op, ↓e_Un, ↓e_B, ↓e_Chain, ↓e_AndT, ↓e_OrT, ↓e_NotT, ↓e_AndV, ↓e_OrV, ↓e_NotV, ↓e_If, ↓e_Nil, ↓e_Cons, ↓e_Tup, ↓e_Lst, ↓e_CB, ↓e_CBN, ↓e_Isi, ↓e_TupRg1, ↓e_LstRg1, ↓e_TupRg2, ↓e_LstRg2, ↓e_ScrLen, ↓e_ScrAt, ↓e_SeqI, ↓e_Enum, ↓e_Rng1, ↓e_Rng2, ↓e_Seq, ↓e_Next, ↓e_Break, ↓e_Cont, ↓e_Drop, ↓e_Ret, ↓e_RetN, ↓e_Ret0, ↓e_IfS, ↓e_Asg, ↓e_AsgN, ↓e_AsgLc, ↓e_mNil, ↓e_mVal, ↓e_mNew, ↓e_Par, ↓e_For, ↓e_LoopN, ↓e_LoopC, ↓e_Lc, ↓e_Yes, ↓e_Call, ↓e_CallN, ↓e_Append, ↓e_Extend, ↓e_Pop, ↓e_PopAt, ↓e_SetAt, ↓e_Sl, ↓e_NoP, ↓e_P, ↓e_Aug, ↓e_SrtSet, optP_some, vaP_val, boP_val, inP_val, muP_lst, vals_nil, vals_cons, brP_t, brP_f, brP_d, brP_n, scrOf, rg1, rg2, lstAt, lsOf, nt_of, nt_0, nt_1, slotR, slNew, slMu, slOf, setAll, Dl.En.set, Dl.En.wipe, wipeL, noMu_n, noMu_c, isMu_v, isMu_u, isMu_e, isMu_s, tg_nm, Dl.tg_tup, tgs_nil, tgs_cons, fSl, Rv.d, Rv.m, muD, rvDs, obAt, rvOb, obget_s, obget_e, obput_s, obput_e, put_nil, put_one, conv, argOf, argSlot, argExt, obsMu, seqD, env0, argSl, p_mul, p_mod, p_div, p_pow, p_catT, p_catL, p_maxI, p_minI, List.map_cons, List.map_nil, List.replicate_succ, List.replicate_zero, List.length_cons, List.length_nil, List.nil_append, List.cons_append, List.append_nil, List.getElem?_cons_zero, List.getElem?_cons_succ, List.getElem?_nil, List.set_cons_zero, List.set_cons_succ, List.set_nil, Option.bind_some, Option.bind_none, Option.map_some, Option.map_none, Option.some.injEq, Option.isSome_some, List.all_cons, List.all_nil, List.contains_nil, Bool.and_true, Bool.not_false, Bool.true_and, Rv.val.injEq, PyData.int.injEq, PyData.bool.injEq, PyData.tuple.injEq, PyData.list.injEq, and_assoc, Prod.mk.injEq, reduceCtorEq, Mu.lst.injEq, Int.reducePow, Int.reduceNeg, Int.reduceLT, Int.reduceLE, Int.reduceMul, Int.reduceAdd, Int.reduceSub, Int.reduceToNat, Nat.reduceLT, Nat.reduceLeDiff, Nat.zero_le, or_true, true_or, and_self, not_false_eq_true, forall_const, implies_true, if_true_left, false_or, or_false, p_oD, cut2m, List.all_cons, not_true_eq_false, false_implies, isi_bi, isi_bn, isi_bb, isi_bt, isi_bs, isi_ti, isi_tn, isi_tb, isi_tt, isi_ts, isi_si, isi_sn, isi_sb, isi_st, isi_ss, isi_ii, isi_in, isi_ib, isi_it, isi_is, x_add, x_sub, x_neg, x_lt, x_le, x_gt, x_ge, x_eqI, x_neI, x_is, x_isNot, x_ixL, x_ixT, x_int, x_abs, x_lenL, x_lenT, x_tupL, x_tupT, x_lstL, x_lstT, x_max2, x_min2, at0, at1, at2, at3, atNat, x_inT, x_inL, x_notInT, x_notInL, x_all, x_any, x_sumI, x_nilI, x_nnilI, x_nnilJ, x_eqT, x_neT, x_eqO, x_eqOI, isNone_oD, oD_n, oD_s, decide_eq_true_eq, decide_eq_false_iff_not, true_and, and_true, Nat.sub_self, Nat.reduceSub, Nat.reduceAdd, ite_true, Option.some_inj, eq_self, isNone, Bool.not_true, Int.reduceEq, decide_true, decide_false, exists_eq_left', exists_eq_left, dl_1, dl_2, eq_nn, ne_nn, rgD_hs, Int.toNat_natCast, List.length_map, cut40]
  refine ⟨by split <;> omega, by split <;> omega, ?_⟩
  refine loop_inv (enc := PyData.int) (fun done rest env => ∃ s1 s2 s3 s4 s5 s6 s7 s8 s9 s10 s11 s12 s13 s14 s15 s16, (∀ x ∈ rest, 0 ≤ x) ∧ nMu s13 ∧ nMu s16 ∧
    env = ⟨[.scr ns, s1, s2, s3, s4, s5, s6, s7, s8, s9, s10, s11, s12, s13, s14, s15, s16], []⟩) (hsI _) [] _ ?_ ?_ ⟨.un, .un, .un, .un, .un, .un, .un, .un, .un, .un, .un, .un, .un, .un, .un, .un, fun x hx => (hs_mem.mp hx).1, trivial, trivial, rfl⟩
  · rintro done k rest env ⟨s1, s2, s3, s4, s5, s6, s7, s8, s9, s10, s11, s12, s13, s14, s15, s16, hk, h13, h16, rfl⟩
    refine ⟨_, rfl, fun N hN => ?_⟩
    have hk0 := hk k List.mem_cons_self
    have hkr : ∀ x ∈ rest, 0 ≤ x := fun x hx => hk x (List.mem_cons_of_mem _ hx)
    simp only [↓e_C, ↓e_V, ↓e_Fz, ↓e_Op, ↓e_Un, ↓e_B, ↓e_Chain, ↓e_AndT, ↓e_OrT, ↓e_NotT, ↓e_AndV, ↓e_OrV, ↓e_NotV, ↓e_If, ↓e_Nil, ↓e_Cons, ↓e_Tup, ↓e_Lst, ↓e_CB, ↓e_CBN, ↓e_Isi, ↓e_TupRg1, ↓e_LstRg1, ↓e_TupRg2, ↓e_LstRg2, ↓e_ScrLen, ↓e_ScrAt, ↓e_SeqI, ↓e_Enum, ↓e_Rng1, ↓e_Rng2, ↓e_Seq, ↓e_Next, ↓e_Break, ↓e_Cont, ↓e_Drop, ↓e_Ret, ↓e_RetN, ↓e_Ret0, ↓e_IfS, ↓e_Asg, ↓e_AsgN, ↓e_AsgLc, ↓e_mNil, ↓e_mVal, ↓e_mNew, ↓e_Par, ↓e_For, ↓e_LoopN, ↓e_LoopC, ↓e_Lc, ↓e_Yes, ↓e_Call, ↓e_CallN, ↓e_Append, ↓e_Extend, ↓e_Pop, ↓e_PopAt, ↓e_SetAt, ↓e_Sl, ↓e_NoP, ↓e_P, ↓e_Aug, ↓e_SrtSet, optP_some, vaP_val, boP_val, inP_val, muP_lst, vals_nil, vals_cons, brP_t, brP_f, brP_d, brP_n, scrOf, rg1, rg2, lstAt, lsOf, nt_of, nt_0, nt_1, slotR, slNew, slMu, slOf, setAll, Dl.En.set, Dl.En.wipe, wipeL, noMu_n, noMu_c, isMu_v, isMu_u, isMu_e, isMu_s, tg_nm, Dl.tg_tup, tgs_nil, tgs_cons, fSl, Rv.d, Rv.m, muD, rvDs, obAt, rvOb, obget_s, obget_e, obput_s, obput_e, put_nil, put_one, conv, argOf, argSlot, argExt, obsMu, seqD, env0, argSl, p_mul, p_mod, p_div, p_pow, p_catT, p_catL, p_maxI, p_minI, List.map_cons, List.map_nil, List.replicate_succ, List.replicate_zero, List.length_cons, List.length_nil, List.nil_append, List.cons_append, List.append_nil, List.getElem?_cons_zero, List.getElem?_cons_succ, List.getElem?_nil, List.set_cons_zero, List.set_cons_succ, List.set_nil, Option.bind_some, Option.bind_none, Option.map_some, Option.map_none, Option.some.injEq, Option.isSome_some, List.all_cons, List.all_nil, List.contains_nil, Bool.and_true, Bool.not_false, Bool.true_and, Rv.val.injEq, PyData.int.injEq, PyData.bool.injEq, PyData.tuple.injEq, PyData.list.injEq, and_assoc, Prod.mk.injEq, reduceCtorEq, Mu.lst.injEq, Int.reducePow, Int.reduceNeg, Int.reduceLT, Int.reduceLE, Int.reduceMul, Int.reduceAdd, Int.reduceSub, Int.reduceToNat, Nat.reduceLT, Nat.reduceLeDiff, Nat.zero_le, or_true, true_or, and_self, not_false_eq_true, forall_const, implies_true, if_true_left, false_or, or_false, p_oD, cut2m, List.all_cons, not_true_eq_false, false_implies, isi_bi, isi_bn, isi_bb, isi_bt, isi_bs, isi_ti, isi_tn, isi_tb, isi_tt, isi_ts, isi_si, isi_sn, isi_sb, isi_st, isi_ss, isi_ii, isi_in, isi_ib, isi_it, isi_is, x_add, x_sub, x_neg, x_lt, x_le, x_gt, x_ge, x_eqI, x_neI, x_is, x_isNot, x_ixL, x_ixT, x_int, x_abs, x_lenL, x_lenT, x_tupL, x_tupT, x_lstL, x_lstT, x_max2, x_min2, at0, at1, at2, at3, atNat, x_inT, x_inL, x_notInT, x_notInL, x_all, x_any, x_sumI, x_nilI, x_nnilI, x_nnilJ, x_eqT, x_neT, x_eqO, x_eqOI, isNone_oD, oD_n, oD_s, decide_eq_true_eq, decide_eq_false_iff_not, true_and, and_true, Nat.sub_self, Nat.reduceSub, Nat.reduceAdd, ite_true, Option.some_inj, eq_self, isNone, Bool.not_true, Int.reduceEq, decide_true, decide_false, exists_eq_left', exists_eq_left, dl_1, dl_2, eq_nn, ne_nn, rgD_hs, Int.toNat_natCast, List.length_map, cut40]
    refine ⟨ns, k, rfl, hk0, fun g r => ?_⟩
    simp only [↓e_C, ↓e_V, ↓e_Fz, ↓e_Op, ↓e_Un, ↓e_B, ↓e_Chain, ↓e_AndT, ↓e_OrT, ↓e_NotT, ↓e_AndV, ↓e_OrV, ↓e_NotV, ↓e_If, ↓e_Nil, ↓e_Cons, ↓e_Tup, ↓e_Lst, ↓e_CB, ↓e_CBN, ↓e_Isi, ↓e_TupRg1, ↓e_LstRg1, ↓e_TupRg2, ↓e_LstRg2, ↓e_ScrLen, ↓e_ScrAt, ↓e_SeqI, ↓e_Enum, ↓e_Rng1, ↓e_Rng2, ↓e_Seq, ↓e_Next, ↓e_Break, ↓e_Cont, ↓e_Drop, ↓e_Ret, ↓e_RetN, ↓e_Ret0, ↓e_IfS, ↓e_Asg, ↓e_AsgN, ↓e_AsgLc, ↓e_mNil, ↓e_mVal, ↓e_mNew, ↓e_Par, ↓e_For, ↓e_LoopN, ↓e_LoopC, ↓e_Lc, ↓e_Yes, ↓e_Call, ↓e_CallN, ↓e_Append, ↓e_Extend, ↓e_Pop, ↓e_PopAt, ↓e_SetAt, ↓e_Sl, ↓e_NoP, ↓e_P, ↓e_Aug, ↓e_SrtSet, optP_some, vaP_val, boP_val, inP_val, muP_lst, vals_nil, vals_cons, brP_t, brP_f, brP_d, brP_n, scrOf, rg1, rg2, lstAt, lsOf, nt_of, nt_0, nt_1, slotR, slNew, slMu, slOf, setAll, Dl.En.set, Dl.En.wipe, wipeL, noMu_n, noMu_c, isMu_v, isMu_u, isMu_e, isMu_s, tg_nm, Dl.tg_tup, tgs_nil, tgs_cons, fSl, Rv.d, Rv.m, muD, rvDs, obAt, rvOb, obget_s, obget_e, obput_s, obput_e, put_nil, put_one, conv, argOf, argSlot, argExt, obsMu, seqD, env0, argSl, p_mul, p_mod, p_div, p_pow, p_catT, p_catL, p_maxI, p_minI, List.map_cons, List.map_nil, List.replicate_succ, List.replicate_zero, List.length_cons, List.length_nil, List.nil_append, List.cons_append, List.append_nil, List.getElem?_cons_zero, List.getElem?_cons_succ, List.getElem?_nil, List.set_cons_zero, List.set_cons_succ, List.set_nil, Option.bind_some, Option.bind_none, Option.map_some, Option.map_none, Option.some.injEq, Option.isSome_some, List.all_cons, List.all_nil, List.contains_nil, Bool.and_true, Bool.not_false, Bool.true_and, Rv.val.injEq, PyData.int.injEq, PyData.bool.injEq, PyData.tuple.injEq, PyData.list.injEq, and_assoc, Prod.mk.injEq, reduceCtorEq, Mu.lst.injEq, Int.reducePow, Int.reduceNeg, Int.reduceLT, Int.reduceLE, Int.reduceMul, Int.reduceAdd, Int.reduceSub, Int.reduceToNat, Nat.reduceLT, Nat.reduceLeDiff, Nat.zero_le, or_true, true_or, and_self, not_false_eq_true, forall_const, implies_true, if_true_left, false_or, or_false, p_oD, cut2m, List.all_cons, not_true_eq_false, false_implies, isi_bi, isi_bn, isi_bb, isi_bt, isi_bs, isi_ti, isi_tn, isi_tb, isi_tt, isi_ts, isi_si, isi_sn, isi_sb, isi_st, isi_ss, isi_ii, isi_in, isi_ib, isi_it, isi_is, x_add, x_sub, x_neg, x_lt, x_le, x_gt, x_ge, x_eqI, x_neI, x_is, x_isNot, x_ixL, x_ixT, x_int, x_abs, x_lenL, x_lenT, x_tupL, x_tupT, x_lstL, x_lstT, x_max2, x_min2, at0, at1, at2, at3, atNat, x_inT, x_inL, x_notInT, x_notInL, x_all, x_any, x_sumI, x_nilI, x_nnilI, x_nnilJ, x_eqT, x_neT, x_eqO, x_eqOI, isNone_oD, oD_n, oD_s, decide_eq_true_eq, decide_eq_false_iff_not, true_and, and_true, Nat.sub_self, Nat.reduceSub, Nat.reduceAdd, ite_true, Option.some_inj, eq_self, isNone, Bool.not_true, Int.reduceEq, decide_true, decide_false, exists_eq_left', exists_eq_left, dl_1, dl_2, eq_nn, ne_nn, rgD_hs, Int.toNat_natCast, List.length_map, cut40]
    refine box_take (by omega) (by omega) fun n g r n0 n1 => ?_
    obtain ⟨m, hm⟩ : ∃ m : Nat, 1 + n = m := ⟨(1 + n).toNat, by omega⟩
    simp only [↓e_C, ↓e_V, ↓e_Fz, ↓e_Op, ↓e_Un, ↓e_B, ↓e_Chain, ↓e_AndT, ↓e_OrT, ↓e_NotT, ↓e_AndV, ↓e_OrV, ↓e_NotV, ↓e_If, ↓e_Nil, ↓e_Cons, ↓e_Tup, ↓e_Lst, ↓e_CB, ↓e_CBN, ↓e_Isi, ↓e_TupRg1, ↓e_LstRg1, ↓e_TupRg2, ↓e_LstRg2, ↓e_ScrLen, ↓e_ScrAt, ↓e_SeqI, ↓e_Enum, ↓e_Rng1, ↓e_Rng2, ↓e_Seq, ↓e_Next, ↓e_Break, ↓e_Cont, ↓e_Drop, ↓e_Ret, ↓e_RetN, ↓e_Ret0, ↓e_IfS, ↓e_Asg, ↓e_AsgN, ↓e_AsgLc, ↓e_mNil, ↓e_mVal, ↓e_mNew, ↓e_Par, ↓e_For, ↓e_LoopN, ↓e_LoopC, ↓e_Lc, ↓e_Yes, ↓e_Call, ↓e_CallN, ↓e_Append, ↓e_Extend, ↓e_Pop, ↓e_PopAt, ↓e_SetAt, ↓e_Sl, ↓e_NoP, ↓e_P, ↓e_Aug, ↓e_SrtSet, optP_some, vaP_val, boP_val, inP_val, muP_lst, vals_nil, vals_cons, brP_t, brP_f, brP_d, brP_n, scrOf, rg1, rg2, lstAt, lsOf, nt_of, nt_0, nt_1, slotR, slNew, slMu, slOf, setAll, Dl.En.set, Dl.En.wipe, wipeL, noMu_n, noMu_c, isMu_v, isMu_u, isMu_e, isMu_s, tg_nm, Dl.tg_tup, tgs_nil, tgs_cons, fSl, Rv.d, Rv.m, muD, rvDs, obAt, rvOb, obget_s, obget_e, obput_s, obput_e, put_nil, put_one, conv, argOf, argSlot, argExt, obsMu, seqD, env0, argSl, p_mul, p_mod, p_div, p_pow, p_catT, p_catL, p_maxI, p_minI, List.map_cons, List.map_nil, List.replicate_succ, List.replicate_zero, List.length_cons, List.length_nil, List.nil_append, List.cons_append, List.append_nil, List.getElem?_cons_zero, List.getElem?_cons_succ, List.getElem?_nil, List.set_cons_zero, List.set_cons_succ, List.set_nil, Option.bind_some, Option.bind_none, Option.map_some, Option.map_none, Option.some.injEq, Option.isSome_some, List.all_cons, List.all_nil, List.contains_nil, Bool.and_true, Bool.not_false, Bool.true_and, Rv.val.injEq, PyData.int.injEq, PyData.bool.injEq, PyData.tuple.injEq, PyData.list.injEq, and_assoc, Prod.mk.injEq, reduceCtorEq, Mu.lst.injEq, Int.reducePow, Int.reduceNeg, Int.reduceLT, Int.reduceLE, Int.reduceMul, Int.reduceAdd, Int.reduceSub, Int.reduceToNat, Nat.reduceLT, Nat.reduceLeDiff, Nat.zero_le, or_true, true_or, and_self, not_false_eq_true, forall_const, implies_true, if_true_left, false_or, or_false, p_oD, cut2m, List.all_cons, not_true_eq_false, false_implies, isi_bi, isi_bn, isi_bb, isi_bt, isi_bs, isi_ti, isi_tn, isi_tb, isi_tt, isi_ts, isi_si, isi_sn, isi_sb, isi_st, isi_ss, isi_ii, isi_in, isi_ib, isi_it, isi_is, x_add, x_sub, x_neg, x_lt, x_le, x_gt, x_ge, x_eqI, x_neI, x_is, x_isNot, x_ixL, x_ixT, x_int, x_abs, x_lenL, x_lenT, x_tupL, x_tupT, x_lstL, x_lstT, x_max2, x_min2, at0, at1, at2, at3, atNat, x_inT, x_inL, x_notInT, x_notInL, x_all, x_any, x_sumI, x_nilI, x_nnilI, x_nnilJ, x_eqT, x_neT, x_eqO, x_eqOI, isNone_oD, oD_n, oD_s, decide_eq_true_eq, decide_eq_false_iff_not, true_and, and_true, Nat.sub_self, Nat.reduceSub, Nat.reduceAdd, ite_true, Option.some_inj, eq_self, isNone, Bool.not_true, Int.reduceEq, decide_true, decide_false, exists_eq_left', exists_eq_left, dl_1, dl_2, eq_nn, ne_nn, rgD_hs, Int.toNat_natCast, List.length_map, cut40]
    rw [hm]
    refine box_liars (by omega) (by omega) fun f g r hf => ?_
    simp only [↓e_C, ↓e_V, ↓e_Fz, ↓e_Op, ↓e_Un, ↓e_B, ↓e_Chain, ↓e_AndT, ↓e_OrT, ↓e_NotT, ↓e_AndV, ↓e_OrV, ↓e_NotV, ↓e_If, ↓e_Nil, ↓e_Cons, ↓e_Tup, ↓e_Lst, ↓e_CB, ↓e_CBN, ↓e_Isi, ↓e_TupRg1, ↓e_LstRg1, ↓e_TupRg2, ↓e_LstRg2, ↓e_ScrLen, ↓e_ScrAt, ↓e_SeqI, ↓e_Enum, ↓e_Rng1, ↓e_Rng2, ↓e_Seq, ↓e_Next, ↓e_Break, ↓e_Cont, ↓e_Drop, ↓e_Ret, ↓e_RetN, ↓e_Ret0, ↓e_IfS, ↓e_Asg, ↓e_AsgN, ↓e_AsgLc, ↓e_mNil, ↓e_mVal, ↓e_mNew, ↓e_Par, ↓e_For, ↓e_LoopN, ↓e_LoopC, ↓e_Lc, ↓e_Yes, ↓e_Call, ↓e_CallN, ↓e_Append, ↓e_Extend, ↓e_Pop, ↓e_PopAt, ↓e_SetAt, ↓e_Sl, ↓e_NoP, ↓e_P, ↓e_Aug, ↓e_SrtSet, optP_some, vaP_val, boP_val, inP_val, muP_lst, vals_nil, vals_cons, brP_t, brP_f, brP_d, brP_n, scrOf, rg1, rg2, lstAt, lsOf, nt_of, nt_0, nt_1, slotR, slNew, slMu, slOf, setAll, Dl.En.set, Dl.En.wipe, wipeL, noMu_n, noMu_c, isMu_v, isMu_u, isMu_e, isMu_s, tg_nm, Dl.tg_tup, tgs_nil, tgs_cons, fSl, Rv.d, Rv.m, muD, rvDs, obAt, rvOb, obget_s, obget_e, obput_s, obput_e, put_nil, put_one, conv, argOf, argSlot, argExt, obsMu, seqD, env0, argSl, p_mul, p_mod, p_div, p_pow, p_catT, p_catL, p_maxI, p_minI, List.map_cons, List.map_nil, List.replicate_succ, List.replicate_zero, List.length_cons, List.length_nil, List.nil_append, List.cons_append, List.append_nil, List.getElem?_cons_zero, List.getElem?_cons_succ, List.getElem?_nil, List.set_cons_zero, List.set_cons_succ, List.set_nil, Option.bind_some, Option.bind_none, Option.map_some, Option.map_none, Option.some.injEq, Option.isSome_some, List.all_cons, List.all_nil, List.contains_nil, Bool.and_true, Bool.not_false, Bool.true_and, Rv.val.injEq, PyData.int.injEq, PyData.bool.injEq, PyData.tuple.injEq, PyData.list.injEq, and_assoc, Prod.mk.injEq, reduceCtorEq, Mu.lst.injEq, Int.reducePow, Int.reduceNeg, Int.reduceLT, Int.reduceLE, Int.reduceMul, Int.reduceAdd, Int.reduceSub, Int.reduceToNat, Nat.reduceLT, Nat.reduceLeDiff, Nat.zero_le, or_true, true_or, and_self, not_false_eq_true, forall_const, implies_true, if_true_left, false_or, or_false, p_oD, cut2m, List.all_cons, not_true_eq_false, false_implies, isi_bi, isi_bn, isi_bb, isi_bt, isi_bs, isi_ti, isi_tn, isi_tb, isi_tt, isi_ts, isi_si, isi_sn, isi_sb, isi_st, isi_ss, isi_ii, isi_in, isi_ib, isi_it, isi_is, x_add, x_sub, x_neg, x_lt, x_le, x_gt, x_ge, x_eqI, x_neI, x_is, x_isNot, x_ixL, x_ixT, x_int, x_abs, x_lenL, x_lenT, x_tupL, x_tupT, x_lstL, x_lstT, x_max2, x_min2, at0, at1, at2, at3, atNat, x_inT, x_inL, x_notInT, x_notInL, x_all, x_any, x_sumI, x_nilI, x_nnilI, x_nnilJ, x_eqT, x_neT, x_eqO, x_eqOI, isNone_oD, oD_n, oD_s, decide_eq_true_eq, decide_eq_false_iff_not, true_and, and_true, Nat.sub_self, Nat.reduceSub, Nat.reduceAdd, ite_true, Option.some_inj, eq_self, isNone, Bool.not_true, Int.reduceEq, decide_true, decide_false, exists_eq_left', exists_eq_left, dl_1, dl_2, eq_nn, ne_nn, rgD_hs, Int.toNat_natCast, List.length_map, cut40]
    refine loop_inv (enc := PyData.int) (fun done rest env => ∃ g r s5 s6 s7 s8 s9 s10 s11 s12 s13 s14 s15 s16, nMu s13 ∧ nMu s16 ∧
      env = ⟨[.scr ns, .val (.int k), .mu (.lst [.int g, .int r]), .val (.int m), .val (tF f), s5, s6, s7, s8, s9, s10, s11, s12, s13, s14, s15, s16], []⟩) (hsI _) [] _ ?_ ?_ ⟨_, _, _, _, _, _, _, _, _, _, _, _, _, _, h13, h16, rfl⟩
    · rintro done t rest env ⟨g, r, s5, s6, s7, s8, s9, s10, s11, s12, s13, s14, s15, s16, h13, h16, rfl⟩
      refine ⟨_, rfl, fun N hN => ?_⟩
      simp only [↓e_C, ↓e_V, ↓e_Fz, ↓e_Op, ↓e_Un, ↓e_B, ↓e_Chain, ↓e_AndT, ↓e_OrT, ↓e_NotT, ↓e_AndV, ↓e_OrV, ↓e_NotV, ↓e_If, ↓e_Nil, ↓e_Cons, ↓e_Tup, ↓e_Lst, ↓e_CB, ↓e_CBN, ↓e_Isi, ↓e_TupRg1, ↓e_LstRg1, ↓e_TupRg2, ↓e_LstRg2, ↓e_ScrLen, ↓e_ScrAt, ↓e_SeqI, ↓e_Enum, ↓e_Rng1, ↓e_Rng2, ↓e_Seq, ↓e_Next, ↓e_Break, ↓e_Cont, ↓e_Drop, ↓e_Ret, ↓e_RetN, ↓e_Ret0, ↓e_IfS, ↓e_Asg, ↓e_AsgN, ↓e_AsgLc, ↓e_mNil, ↓e_mVal, ↓e_mNew, ↓e_Par, ↓e_For, ↓e_LoopN, ↓e_LoopC, ↓e_Lc, ↓e_Yes, ↓e_Call, ↓e_CallN, ↓e_Append, ↓e_Extend, ↓e_Pop, ↓e_PopAt, ↓e_SetAt, ↓e_Sl, ↓e_NoP, ↓e_P, ↓e_Aug, ↓e_SrtSet, optP_some, vaP_val, boP_val, inP_val, muP_lst, vals_nil, vals_cons, brP_t, brP_f, brP_d, brP_n, scrOf, rg1, rg2, lstAt, lsOf, nt_of, nt_0, nt_1, slotR, slNew, slMu, slOf, setAll, Dl.En.set, Dl.En.wipe, wipeL, noMu_n, noMu_c, isMu_v, isMu_u, isMu_e, isMu_s, tg_nm, Dl.tg_tup, tgs_nil, tgs_cons, fSl, Rv.d, Rv.m, muD, rvDs, obAt, rvOb, obget_s, obget_e, obput_s, obput_e, put_nil, put_one, conv, argOf, argSlot, argExt, obsMu, seqD, env0, argSl, p_mul, p_mod, p_div, p_pow, p_catT, p_catL, p_maxI, p_minI, List.map_cons, List.map_nil, List.replicate_succ, List.replicate_zero, List.length_cons, List.length_nil, List.nil_append, List.cons_append, List.append_nil, List.getElem?_cons_zero, List.getElem?_cons_succ, List.getElem?_nil, List.set_cons_zero, List.set_cons_succ, List.set_nil, Option.bind_some, Option.bind_none, Option.map_some, Option.map_none, Option.some.injEq, Option.isSome_some, List.all_cons, List.all_nil, List.contains_nil, Bool.and_true, Bool.not_false, Bool.true_and, Rv.val.injEq, PyData.int.injEq, PyData.bool.injEq, PyData.tuple.injEq, PyData.list.injEq, and_assoc, Prod.mk.injEq, reduceCtorEq, Mu.lst.injEq, Int.reducePow, Int.reduceNeg, Int.reduceLT, Int.reduceLE, Int.reduceMul, Int.reduceAdd, Int.reduceSub, Int.reduceToNat, Nat.reduceLT, Nat.reduceLeDiff, Nat.zero_le, or_true, true_or, and_self, not_false_eq_true, forall_const, implies_true, if_true_left, false_or, or_false, p_oD, cut2m, List.all_cons, not_true_eq_false, false_implies, isi_bi, isi_bn, isi_bb, isi_bt, isi_bs, isi_ti, isi_tn, isi_tb, isi_tt, isi_ts, isi_si, isi_sn, isi_sb, isi_st, isi_ss, isi_ii, isi_in, isi_ib, isi_it, isi_is, x_add, x_sub, x_neg, x_lt, x_le, x_gt, x_ge, x_eqI, x_neI, x_is, x_isNot, x_ixL, x_ixT, x_int, x_abs, x_lenL, x_lenT, x_tupL, x_tupT, x_lstL, x_lstT, x_max2, x_min2, at0, at1, at2, at3, atNat, x_inT, x_inL, x_notInT, x_notInL, x_all, x_any, x_sumI, x_nilI, x_nnilI, x_nnilJ, x_eqT, x_neT, x_eqO, x_eqOI, isNone_oD, oD_n, oD_s, decide_eq_true_eq, decide_eq_false_iff_not, true_and, and_true, Nat.sub_self, Nat.reduceSub, Nat.reduceAdd, ite_true, Option.some_inj, eq_self, isNone, Bool.not_true, Int.reduceEq, decide_true, decide_false, exists_eq_left', exists_eq_left, dl_1, dl_2, eq_nn, ne_nn, rgD_hs, Int.toNat_natCast, List.length_map, cut40]
      exact c5_ok hf (by omega) (by omega) h13 h16 fun g r s6 s7 s8 s9 s10 s11 s12 s13 s14 s15 s16 q13 q16 => hN _ ⟨_, _, _, _, _, _, _, _, _, _, _, _, _, _, q13, q16, rfl⟩
    · rintro done env ⟨g, r, s5, s6, s7, s8, s9, s10, s11, s12, s13, s14, s15, s16, h13, h16, rfl⟩
      exact hN _ ⟨_, _, _, _, _, _, _, _, _, _, _, _, _, _, _, _, hkr, h13, h16, rfl⟩
  · rintro done env ⟨s1, s2, s3, s4, s5, s6, s7, s8, s9, s10, s11, s12, s13, s14, s15, s16, hk, h13, h16, rfl⟩
    simp only [↓e_C, ↓e_V, ↓e_Fz, ↓e_Op, ↓e_Un, ↓e_B, ↓e_Chain, ↓e_AndT, ↓e_OrT, ↓e_NotT, ↓e_AndV, ↓e_OrV, ↓e_NotV, ↓e_If, ↓e_Nil, ↓e_Cons, ↓e_Tup, ↓e_Lst, ↓e_CB, ↓e_CBN, ↓e_Isi, ↓e_TupRg1, ↓e_LstRg1, ↓e_TupRg2, ↓e_LstRg2, ↓e_ScrLen, ↓e_ScrAt, ↓e_SeqI, ↓e_Enum, ↓e_Rng1, ↓e_Rng2, ↓e_Seq, ↓e_Next, ↓e_Break, ↓e_Cont, ↓e_Drop, ↓e_Ret, ↓e_RetN, ↓e_Ret0, ↓e_IfS, ↓e_Asg, ↓e_AsgN, ↓e_AsgLc, ↓e_mNil, ↓e_mVal, ↓e_mNew, ↓e_Par, ↓e_For, ↓e_LoopN, ↓e_LoopC, ↓e_Lc, ↓e_Yes, ↓e_Call, ↓e_CallN, ↓e_Append, ↓e_Extend, ↓e_Pop, ↓e_PopAt, ↓e_SetAt, ↓e_Sl, ↓e_NoP, ↓e_P, ↓e_Aug, ↓e_SrtSet, optP_some, vaP_val, boP_val, inP_val, muP_lst, vals_nil, vals_cons, brP_t, brP_f, brP_d, brP_n, scrOf, rg1, rg2, lstAt, lsOf, nt_of, nt_0, nt_1, slotR, slNew, slMu, slOf, setAll, Dl.En.set, Dl.En.wipe, wipeL, noMu_n, noMu_c, isMu_v, isMu_u, isMu_e, isMu_s, tg_nm, Dl.tg_tup, tgs_nil, tgs_cons, fSl, Rv.d, Rv.m, muD, rvDs, obAt, rvOb, obget_s, obget_e, obput_s, obput_e, put_nil, put_one, conv, argOf, argSlot, argExt, obsMu, seqD, env0, argSl, p_mul, p_mod, p_div, p_pow, p_catT, p_catL, p_maxI, p_minI, List.map_cons, List.map_nil, List.replicate_succ, List.replicate_zero, List.length_cons, List.length_nil, List.nil_append, List.cons_append, List.append_nil, List.getElem?_cons_zero, List.getElem?_cons_succ, List.getElem?_nil, List.set_cons_zero, List.set_cons_succ, List.set_nil, Option.bind_some, Option.bind_none, Option.map_some, Option.map_none, Option.some.injEq, Option.isSome_some, List.all_cons, List.all_nil, List.contains_nil, Bool.and_true, Bool.not_false, Bool.true_and, Rv.val.injEq, PyData.int.injEq, PyData.bool.injEq, PyData.tuple.injEq, PyData.list.injEq, and_assoc, Prod.mk.injEq, reduceCtorEq, Mu.lst.injEq, Int.reducePow, Int.reduceNeg, Int.reduceLT, Int.reduceLE, Int.reduceMul, Int.reduceAdd, Int.reduceSub, Int.reduceToNat, Nat.reduceLT, Nat.reduceLeDiff, Nat.zero_le, or_true, true_or, and_self, not_false_eq_true, forall_const, implies_true, if_true_left, false_or, or_false, p_oD, cut2m, List.all_cons, not_true_eq_false, false_implies, isi_bi, isi_bn, isi_bb, isi_bt, isi_bs, isi_ti, isi_tn, isi_tb, isi_tt, isi_ts, isi_si, isi_sn, isi_sb, isi_st, isi_ss, isi_ii, isi_in, isi_ib, isi_it, isi_is, x_add, x_sub, x_neg, x_lt, x_le, x_gt, x_ge, x_eqI, x_neI, x_is, x_isNot, x_ixL, x_ixT, x_int, x_abs, x_lenL, x_lenT, x_tupL, x_tupT, x_lstL, x_lstT, x_max2, x_min2, at0, at1, at2, at3, atNat, x_inT, x_inL, x_notInT, x_notInL, x_all, x_any, x_sumI, x_nilI, x_nnilI, x_nnilJ, x_eqT, x_neT, x_eqO, x_eqOI, isNone_oD, oD_n, oD_s, decide_eq_true_eq, decide_eq_false_iff_not, true_and, and_true, Nat.sub_self, Nat.reduceSub, Nat.reduceAdd, ite_true, Option.some_inj, eq_self, isNone, Bool.not_true, Int.reduceEq, decide_true, decide_false, exists_eq_left', exists_eq_left, dl_1, dl_2, eq_nn, ne_nn, rgD_hs, Int.toNat_natCast, List.length_map, cut40]
    exact q
end Dl
namespace Dl.W_k89
open PySem PySem.Spec PyProof.Rows L2
def topS (i : Nat) : Stmt := PySem.Challenge.pw_nolieholds_k89_whole_never_newer_than_th.main.body.getD i (.Pass ⟨0, 0, 0, 0⟩)
theorem fun_of {K : PySem.W.Frag} {x : Str} {st : Stmt} {f : Addr} {fd : FuncData} (F : FunD K x x (defArgs st) (defBody st) (defScope st) [] [] f fd) : Fun K x x st f fd := by
  obtain ⟨⟨oc, od, dV, kV, doc, pm, an, cdv, ct, osl, e, lk, hcd, hD, hK⟩, kp⟩ := F
  rcases hD with ⟨_, rfl⟩ | ⟨z, _⟩
  · exact ⟨⟨oc, od, kV, doc, pm, an, cdv, ct, osl, e, lk, hcd⟩, kp⟩
  · exact absurd rfl z
abbrev s_is_within : Stmt := topS 1
theorem sc_is_within : FnScope ["one", "two", "house"] ["one", "two"] (defScope s_is_within) := ⟨rfl, rfl, rfl, by decide +kernel, rfl, by decide +kernel, by decide +kernel⟩
set_option maxHeartbeats 4000000 in
theorem d_is_within {P : Program} {w : World} {K : PySem.W.Frag} {mg : Str → Option Value} {base : Heap} (nb_all : mg "all" = none) {f : Addr} {cdv : Value} {A' : Around} {outer : List Env} {s : Shared} {H : Hp} {E : XK} (hr : Room 0 (A'.deeper (PyProof.Rows.envOfC "is_within" (defScope s_is_within) s.heap.objs.size f cdv))) :
    DSs (cxOf CX0 P w K mg base ["one", "two", "house"] "is_within" (defScope s_is_within) f cdv A' outer s H E).nox (defBody s_is_within) r_is_within := by
  have nd := sc_is_within.nd
  exact dss_one (ds_ret (de_callB (o_all rfl) nb_all boot_all_ (da_cons (de_fz (dn_lc (own := [("house", 2)]) rfl nd (di_seq (de_v 0)) (blkOk_by (own := [("house", 2)]) (by kernel_rfl)) (fun _ _ _ _ _ => dg_name 2 nd) (fun _ _ _ _ _ => dts_nil) (fun _ _ _ _ _ => de_cmp o_in (de_v 2) (de_v 1) (by rfl)))) da_nil)))
noncomputable def c_is_within {P : Program} {w : World} {K : PySem.W.Frag} {mg : Str → Option Value} {base : Heap} (A : FnA K mg "is_within" s_is_within) (nb_all : mg "all" = none) : Cal P w K mg base "is_within" 1 ["one", "two"] T_is_within :=
  FnA.cal A sc_is_within (fun _ _ _ _ _ _ us hl => match us, hl with | [_, _], _ => rfl) (fun cdv A' outer s H E hr => d_is_within nb_all hr) pure_is_within
abbrev s_tellers_of : Stmt := topS 5
theorem sc_tellers_of : FnScope ["told", "number", "house", "one"] ["told", "number"] (defScope s_tellers_of) := ⟨rfl, rfl, rfl, by decide +kernel, rfl, by decide +kernel, by decide +kernel⟩
set_option maxHeartbeats 4000000 in
theorem d_tellers_of {P : Program} {w : World} {K : PySem.W.Frag} {mg : Str → Option Value} {base : Heap} (nb_enumerate : mg "enumerate" = none) (nb_tuple : mg "tuple" = none) {f : Addr} {cdv : Value} {A' : Around} {outer : List Env} {s : Shared} {H : Hp} {E : XK} (hr : Room 0 (A'.deeper (PyProof.Rows.envOfC "tellers_of" (defScope s_tellers_of) s.heap.objs.size f cdv))) :
    DSs (cxOf CX0 P w K mg base ["told", "number", "house", "one"] "tellers_of" (defScope s_tellers_of) f cdv A' outer s H E).nox (defBody s_tellers_of) r_tellers_of := by
  have nd := sc_tellers_of.nd
  exact dss_one (ds_ret (de_callTy o_tuple nb_tuple boot_tuple_ (da_cons (de_fz (dn_lc (own := [("house", 2), ("one", 3)]) rfl nd (di_enum nb_enumerate (de_v 0)) (blkOk_by (own := [("house", 2), ("one", 3)]) (by kernel_rfl)) (fun _ _ _ _ _ => dg_tup rfl (dgs_cons (dg_name 2 nd) (dgs_cons (dg_name 3 nd) dgs_nil))) (fun _ _ _ _ _ => dts_one (dt_cmp (o_eq hr.units) (de_v 3) (de_v 1) (nomark _))) (fun _ _ _ _ _ => de_v 2))) da_nil)))
noncomputable def c_tellers_of {P : Program} {w : World} {K : PySem.W.Frag} {mg : Str → Option Value} {base : Heap} (A : FnA K mg "tellers_of" s_tellers_of) (nb_enumerate : mg "enumerate" = none) (nb_tuple : mg "tuple" = none) : Cal P w K mg base "tellers_of" 1 ["told", "number"] T_tellers_of :=
  FnA.cal A sc_tellers_of (fun _ _ _ _ _ _ us hl => match us, hl with | [_, _], _ => rfl) (fun cdv A' outer s H E hr => d_tellers_of nb_enumerate nb_tuple hr) pure_tellers_of
abbrev s_newest_signed : Stmt := topS 7
theorem sc_newest_signed : FnScope ["told", "some", "number"] ["told"] (defScope s_newest_signed) := ⟨rfl, rfl, rfl, by decide +kernel, rfl, by decide +kernel, by decide +kernel⟩
set_option maxHeartbeats 4000000 in
theorem d_newest_signed {P : Program} {w : World} {K : PySem.W.Frag} {mg : Str → Option Value} {base : Heap} (nb_len : mg "len" = none) (nb_max : mg "max" = none) {f : Addr} {cdv : Value} {A' : Around} {outer : List Env} {s : Shared} {H : Hp} {E : XK} (hr : Room 0 (A'.deeper (PyProof.Rows.envOfC "newest_signed" (defScope s_newest_signed) s.heap.objs.size f cdv))) :
    DSs (cxOf CX0 P w K mg base ["told", "some", "number"] "newest_signed" (defScope s_newest_signed) f cdv A' outer s H E).nox (defBody s_newest_signed) r_newest_signed := by
  have nd := sc_newest_signed.nd
  exact dss_cons (ds_asgLc (i := 1) (own := [("number", 2)]) rfl nd (di_seq (de_v 0)) (blkOk_by (own := [("number", 2)]) (by kernel_rfl)) (fun _ _ _ _ _ => dg_name 2 nd) (fun _ _ _ _ _ => dts_one (dt_cmp o_isNot (de_v 2) de_non (nomark _))) (fun _ _ _ _ _ => de_v 2)) (dss_one (ds_ret (de_if (dt_cmp o_gt (de_callB o_len nb_len boot_len_ (da_cons (de_v 1) da_nil)) de_int (nomark _)) (de_callB (o_max rfl) nb_max boot_max_ (da_cons (de_v 1) da_nil)) de_non)))
noncomputable def c_newest_signed {P : Program} {w : World} {K : PySem.W.Frag} {mg : Str → Option Value} {base : Heap} (A : FnA K mg "newest_signed" s_newest_signed) (nb_len : mg "len" = none) (nb_max : mg "max" = none) : Cal P w K mg base "newest_signed" 1 ["told"] T_newest_signed :=
  FnA.cal A sc_newest_signed (fun _ _ _ _ _ _ us hl => match us, hl with | [_], _ => rfl) (fun cdv A' outer s H E hr => d_newest_signed nb_len nb_max hr) pure_newest_signed
abbrev s__law_take : Stmt := topS 9
theorem sc__law_take : FnScope ["box", "many", "digit", "raw"] ["box", "many"] (defScope s__law_take) := ⟨rfl, rfl, rfl, by decide +kernel, rfl, by decide +kernel, by decide +kernel⟩
set_option maxHeartbeats 4000000 in
theorem d__law_take {P : Program} {w : World} {K : PySem.W.Frag} {mg : Str → Option Value} {base : Heap} (nb_int : mg "int" = none) {f : Addr} {cdv : Value} {A' : Around} {outer : List Env} {s : Shared} {H : Hp} {E : XK} (hr : Room 0 (A'.deeper (PyProof.Rows.envOfC "_law_take" (defScope s__law_take) s.heap.objs.size f cdv))) :
    DSs (cxOf CX0 P w K mg base ["box", "many", "digit", "raw"] "_law_take" (defScope s__law_take) f cdv A' outer s H E).nox (defBody s__law_take) r__law_take := by
  have nd := sc__law_take.nd
  exact dss_cons (ds_if (dt_cmp o_gt (de_ix o_ix (de_v 0) de_int (fun _ _ => rfl)) de_int (nomark _)) (dss_cons (ds_asg (de_op o_mod (de_callTy o_int nb_int boot_int_ (da_cons (de_ix o_ix (de_v 0) de_int (fun _ _ => rfl)) da_nil)) (de_v 1)) (dg_name 2 nd)) (dss_cons (ds_setAt (i := 0) rfl (de_op o_div (de_ix o_ix (de_v 0) de_int (fun _ _ => rfl)) (de_v 1)) de_int) (dss_one (ds_ret (de_v 2))))) dss_nil) (dss_cons (ds_asg (de_op o_mod (de_callTy o_int nb_int boot_int_ (da_cons (de_op o_add (de_op o_mul (de_ix o_ix (de_v 0) de_int (fun _ _ => rfl)) de_int) de_int) da_nil)) de_int) (dg_name 3 nd)) (dss_cons (ds_setAt (i := 0) rfl (de_op o_add (de_op o_mod (de_callTy o_int nb_int boot_int_ (da_cons (de_op o_add (de_op o_mul (de_v 3) de_int) de_int) da_nil)) de_int) de_int) de_int) (dss_one (ds_ret (de_op o_mod (de_callTy o_int nb_int boot_int_ (da_cons (de_op o_div (de_op o_add (de_op o_mul (de_v 3) de_int) (de_ix o_ix (de_v 0) de_int (fun _ _ => rfl))) de_int) da_nil)) (de_v 1))))))
noncomputable def c__law_take {P : Program} {w : World} {K : PySem.W.Frag} {mg : Str → Option Value} {base : Heap} (A : FnA K mg "_law_take" s__law_take) (nb_int : mg "int" = none) : Cal P w K mg base "_law_take" 1 ["box", "many"] T__law_take :=
  FnA.cal A sc__law_take (fun _ _ _ _ _ _ us hl => match us, hl with | [_, _], _ => rfl) (fun cdv A' outer s H E hr => d__law_take nb_int hr) pure__law_take
abbrev s__law_like : Stmt := topS 11
theorem sc__law_like : FnScope ["told", "due", "left", "turn", "one", "two"] ["told", "due"] (defScope s__law_like) := ⟨rfl, rfl, rfl, by decide +kernel, rfl, by decide +kernel, by decide +kernel⟩
set_option maxHeartbeats 4000000 in
theorem d__law_like {P : Program} {w : World} {K : PySem.W.Frag} {mg : Str → Option Value} {base : Heap} (nb_bool : mg "bool" = none) (nb_int : mg "int" = none) (nb_isinstance : mg "isinstance" = none) (nb_len : mg "len" = none) (nb_list : mg "list" = none) (nb_range : mg "range" = none) (nb_str : mg "str" = none) (nb_tuple : mg "tuple" = none) (nb_zip : mg "zip" = none) {f : Addr} {cdv : Value} {A' : Around} {outer : List Env} {s : Shared} {H : Hp} {E : XK} (hr : Room 0 (A'.deeper (PyProof.Rows.envOfC "_law_like" (defScope s__law_like) s.heap.objs.size f cdv))) :
    DSs (cxOf CX0 P w K mg base ["told", "due", "left", "turn", "one", "two"] "_law_like" (defScope s__law_like) f cdv A' outer s H E).nox (defBody s__law_like) r__law_like := by
  have nd := sc__law_like.nd
  exact dss_cons (ds_asgN (i := 2) (dn_lst (da_cons (de_tup (da_cons (de_v 0) (da_cons (de_v 1) da_nil))) da_nil)) nd) (dss_cons (ds_for rfl (di_rng1 (da_cons de_int da_nil) nb_range) (dg_name 3 nd) (dss_cons (ds_if (dt_cmp (o_eq hr.units) (de_v 2) (de_fz (dn_lst da_nil)) (nomark _)) (dss_one (ds_ret de_bl)) dss_nil) (dss_cons (ds_asg (de_pop (i := 2) rfl) (dg_tup rfl (dgs_cons (dg_name 4 nd) (dgs_cons (dg_name 5 nd) dgs_nil)))) (dss_one (ds_if (dt_cmp o_is (de_v 5) de_non (nomark _)) (dss_one (ds_if (dt_cmp o_isNot (de_v 4) de_non (nomark _)) (dss_one (ds_ret de_bl)) dss_nil)) (dss_one (ds_if (dt_val (de_isi nb_isinstance nb_bool (de_v 5))) (dss_one (ds_if (DW.dt (dw_or (dt_not (dt_val (de_isi nb_isinstance nb_bool (de_v 4)))) (dw_or1 (dt_cmp (o_ne hr.units) (de_v 4) (de_v 5) (nomark _))))) (dss_one (ds_ret de_bl)) dss_nil)) (dss_one (ds_if (dt_val (de_isi nb_isinstance nb_tuple (de_v 5))) (dss_cons (ds_if (DW.dt (dw_or (dt_not (dt_val (de_isi nb_isinstance nb_tuple (de_v 4)))) (dw_or1 (dt_cmp (o_ne hr.units) (de_callB o_len nb_len boot_len_ (da_cons (de_v 4) da_nil)) (de_callB o_len nb_len boot_len_ (da_cons (de_v 5) da_nil)) (nomark _))))) (dss_one (ds_ret de_bl)) dss_nil) (dss_one ds_no)) (dss_one (ds_if (dt_val (de_isi nb_isinstance nb_str (de_v 5))) (dss_one (ds_if (DW.dt (dw_or (dt_not (dt_val (de_isi nb_isinstance nb_str (de_v 4)))) (dw_or1 (dt_cmp (o_ne hr.units) (de_v 4) (de_v 5) (nomark _))))) (dss_one (ds_ret de_bl)) dss_nil)) (dss_one (ds_if (DW.dt (dw_or (dt_not (dt_val (de_isi nb_isinstance nb_int (de_v 4)))) (dw_or (dt_val (de_isi nb_isinstance nb_bool (de_v 4))) (dw_or1 (dt_cmp (o_ne hr.units) (de_v 4) (de_v 5) (nomark _)))))) (dss_one (ds_ret de_bl)) dss_nil))))))))))))) (dss_one (ds_ret de_bl)))
noncomputable def c__law_like {P : Program} {w : World} {K : PySem.W.Frag} {mg : Str → Option Value} {base : Heap} (A : FnA K mg "_law_like" s__law_like) (nb_bool : mg "bool" = none) (nb_int : mg "int" = none) (nb_isinstance : mg "isinstance" = none) (nb_len : mg "len" = none) (nb_list : mg "list" = none) (nb_range : mg "range" = none) (nb_str : mg "str" = none) (nb_tuple : mg "tuple" = none) (nb_zip : mg "zip" = none) : Cal P w K mg base "_law_like" 1 ["told", "due"] T__law_like :=
  FnA.cal A sc__law_like (fun _ _ _ _ _ _ us hl => match us, hl with | [_, _], _ => rfl) (fun cdv A' outer s H E hr => d__law_like nb_bool nb_int nb_isinstance nb_len nb_list nb_range nb_str nb_tuple nb_zip hr) pure__law_like
abbrev s__law_within : Stmt := topS 12
theorem sc__law_within : FnScope ["one", "two", "house"] ["one", "two"] (defScope s__law_within) := ⟨rfl, rfl, rfl, by decide +kernel, rfl, by decide +kernel, by decide +kernel⟩
set_option maxHeartbeats 4000000 in
theorem d__law_within {P : Program} {w : World} {K : PySem.W.Frag} {mg : Str → Option Value} {base : Heap} {f : Addr} {cdv : Value} {A' : Around} {outer : List Env} {s : Shared} {H : Hp} {E : XK} (hr : Room 0 (A'.deeper (PyProof.Rows.envOfC "_law_within" (defScope s__law_within) s.heap.objs.size f cdv))) :
    DSs (cxOf CX0 P w K mg base ["one", "two", "house"] "_law_within" (defScope s__law_within) f cdv A' outer s H E).nox (defBody s__law_within) r__law_within := by
  have nd := sc__law_within.nd
  exact dss_one (ds_ret (de_cmp (o_eq hr.units) (de_fz (dn_lc (own := [("house", 2)]) rfl nd (di_seq (de_v 0)) (blkOk_by (own := [("house", 2)]) (by kernel_rfl)) (fun _ _ _ _ _ => dg_name 2 nd) (fun _ _ _ _ _ => dts_one (dt_cmp o_notIn (de_v 2) (de_v 1) (by rfl))) (fun _ _ _ _ _ => de_int))) (de_fz (dn_lst da_nil)) (nomark _)))
noncomputable def c__law_within {P : Program} {w : World} {K : PySem.W.Frag} {mg : Str → Option Value} {base : Heap} (A : FnA K mg "_law_within" s__law_within) : Cal P w K mg base "_law_within" 1 ["one", "two"] T__law_within :=
  FnA.cal A sc__law_within (fun _ _ _ _ _ _ us hl => match us, hl with | [_, _], _ => rfl) (fun cdv A' outer s H E hr => d__law_within hr) pure__law_within
abbrev s__law_box : Stmt := topS 20
theorem sc__law_box : FnScope ["script", "k", "cell", "great"] ["script", "k"] (defScope s__law_box) := ⟨rfl, rfl, rfl, by decide +kernel, rfl, by decide +kernel, by decide +kernel⟩
set_option maxHeartbeats 4000000 in
theorem d__law_box {P : Program} {w : World} {K : PySem.W.Frag} {mg : Str → Option Value} {base : Heap} (nb_abs : mg "abs" = none) (nb_int : mg "int" = none) (nb_len : mg "len" = none) {f : Addr} {cdv : Value} {A' : Around} {outer : List Env} {s : Shared} {H : Hp} {E : XK} (hr : Room 0 (A'.deeper (PyProof.Rows.envOfC "_law_box" (defScope s__law_box) s.heap.objs.size f cdv))) :
    DSs (cxOf CX0 P w K mg base ["script", "k", "cell", "great"] "_law_box" (defScope s__law_box) f cdv A' outer s H E).nox (defBody s__law_box) r__law_box := by
  have nd := sc__law_box.nd
  exact dss_cons (ds_asg (de_op o_add (de_op o_mul de_int (de_v 1)) de_int) (dg_name 2 nd)) (dss_cons (ds_if (dt_cmp o_lt (de_v 1) (de_scrLen 0 nb_len) (nomark _)) (dss_one (ds_asg (de_callB o_abs nb_abs boot_abs_ (da_cons (de_callTy o_int nb_int boot_int_ (da_cons (de_scrAt 0 (de_v 1)) da_nil)) da_nil)) (dg_name 2 nd))) (dss_one (ds_if (dt_cmp o_gt (de_scrLen 0 nb_len) de_int (nomark _)) (dss_one (ds_asg (de_op o_add (de_v 2) (de_op o_mul (de_op o_mod (de_callTy o_int nb_int boot_int_ (da_cons (de_callB o_abs nb_abs boot_abs_ (da_cons (de_callTy o_int nb_int boot_int_ (da_cons (de_scrAt 0 (de_op o_mod (de_callTy o_int nb_int boot_int_ (da_cons (de_v 1) da_nil)) (de_scrLen 0 nb_len))) da_nil)) da_nil)) da_nil)) de_int) de_int)) (dg_name 2 nd))) dss_nil))) (dss_cons (ds_asg (de_if (dt_cmp o_ge (de_v 2) (de_op o_pow de_int de_int) (nomark _)) (de_v 2) de_int) (dg_name 3 nd)) (dss_one (ds_retN (dn_lst (da_cons (de_v 3) (da_cons (de_op o_add (de_op o_mod (de_callTy o_int nb_int boot_int_ (da_cons (de_op o_add (de_op o_mul (de_op o_mod (de_callTy o_int nb_int boot_int_ (da_cons (de_v 2) da_nil)) de_int) de_int) (de_op o_mul de_int (de_v 1))) da_nil)) de_int) de_int) da_nil)))))))
noncomputable def c__law_box {P : Program} {w : World} {K : PySem.W.Frag} {mg : Str → Option Value} {base : Heap} (A : FnA K mg "_law_box" s__law_box) (nb_abs : mg "abs" = none) (nb_int : mg "int" = none) (nb_len : mg "len" = none) : Cal P w K mg base "_law_box" 1 ["script", "k"] T__law_box :=
  FnA.cal A sc__law_box (fun _ _ _ _ _ _ us hl => match us, hl with | [_, _], _ => rfl) (fun cdv A' outer s H E hr => d__law_box nb_abs nb_int nb_len hr) pure__law_box
abbrev s_may_lie : Stmt := topS 3
theorem sc_may_lie : FnScope ["liars", "lot", "one"] ["liars", "lot"] (defScope s_may_lie) := ⟨rfl, rfl, rfl, by decide +kernel, rfl, by decide +kernel, by decide +kernel⟩
set_option maxHeartbeats 4000000 in
theorem d_may_lie {P : Program} {w : World} {K : PySem.W.Frag} {mg : Str → Option Value} {base : Heap} (c_is_within : Cal P w K mg base "is_within" 1 ["one", "two"] T_is_within) (nb_any : mg "any" = none) {f : Addr} {cdv : Value} {A' : Around} {outer : List Env} {s : Shared} {H : Hp} {E : XK} (hr : Room 1 (A'.deeper (PyProof.Rows.envOfC "may_lie" (defScope s_may_lie) s.heap.objs.size f cdv))) :
    DSs (cxOf CX0 P w K mg base ["liars", "lot", "one"] "may_lie" (defScope s_may_lie) f cdv A' outer s H E).nox (defBody s_may_lie) r_may_lie := by
  have nd := sc_may_lie.nd
  exact dss_one (ds_ret (de_callB (o_any rfl) nb_any boot_any_ (da_cons (de_fz (dn_lc (own := [("one", 2)]) rfl nd (di_seq (de_v 0)) (blkOk_by (own := [("one", 2)]) (by kernel_rfl)) (fun _ _ _ _ _ => dg_name 2 nd) (fun _ _ _ _ _ => dts_nil) (fun _ _ _ _ _ => de_cal c_is_within (hr.mono (by decide)) (da_cons (de_v 1) (da_cons (de_v 2) da_nil))))) da_nil)))
noncomputable def c_may_lie {P : Program} {w : World} {K : PySem.W.Frag} {mg : Str → Option Value} {base : Heap} (A : FnA K mg "may_lie" s_may_lie) (c_is_within : Cal P w K mg base "is_within" 1 ["one", "two"] T_is_within) (nb_any : mg "any" = none) : Cal P w K mg base "may_lie" 2 ["liars", "lot"] T_may_lie :=
  FnA.cal A sc_may_lie (fun _ _ _ _ _ _ us hl => match us, hl with | [_, _], _ => rfl) (fun cdv A' outer s H E hr => d_may_lie c_is_within nb_any hr) pure_may_lie
abbrev s__law_pick : Stmt := topS 10
theorem sc__law_pick : FnScope ["box", "some"] ["box", "some"] (defScope s__law_pick) := ⟨rfl, rfl, rfl, by decide +kernel, rfl, by decide +kernel, by decide +kernel⟩
set_option maxHeartbeats 4000000 in
theorem d__law_pick {P : Program} {w : World} {K : PySem.W.Frag} {mg : Str → Option Value} {base : Heap} (c__law_take : Cal P w K mg base "_law_take" 1 ["box", "many"] T__law_take) (nb_len : mg "len" = none) {f : Addr} {cdv : Value} {A' : Around} {outer : List Env} {s : Shared} {H : Hp} {E : XK} (hr : Room 1 (A'.deeper (PyProof.Rows.envOfC "_law_pick" (defScope s__law_pick) s.heap.objs.size f cdv))) :
    DSs (cxOf CX0 P w K mg base ["box", "some"] "_law_pick" (defScope s__law_pick) f cdv A' outer s H E).nox (defBody s__law_pick) r__law_pick := by
  have nd := sc__law_pick.nd
  exact dss_one (ds_ret (de_ix o_ix (de_v 1) (de_cal c__law_take (hr.mono (by decide)) (da_cons (de_v 0) (da_cons (de_callB o_len nb_len boot_len_ (da_cons (de_v 1) da_nil)) da_nil))) (fun _ _ => rfl)))
noncomputable def c__law_pick {P : Program} {w : World} {K : PySem.W.Frag} {mg : Str → Option Value} {base : Heap} (A : FnA K mg "_law_pick" s__law_pick) (c__law_take : Cal P w K mg base "_law_take" 1 ["box", "many"] T__law_take) (nb_len : mg "len" = none) : Cal P w K mg base "_law_pick" 2 ["box", "some"] T__law_pick :=
  FnA.cal A sc__law_pick (fun _ _ _ _ _ _ us hl => match us, hl with | [_, _], _ => rfl) (fun cdv A' outer s H E hr => d__law_pick c__law_take nb_len hr) pure__law_pick
abbrev s__law_greatest : Stmt := topS 13
theorem sc__law_greatest : FnScope ["lots", "unlike", "one", "two"] ["lots"] (defScope s__law_greatest) := ⟨rfl, rfl, rfl, by decide +kernel, rfl, by decide +kernel, by decide +kernel⟩
set_option maxHeartbeats 4000000 in
theorem d__law_greatest {P : Program} {w : World} {K : PySem.W.Frag} {mg : Str → Option Value} {base : Heap} (c__law_within : Cal P w K mg base "_law_within" 1 ["one", "two"] T__law_within) (nb_set : mg "set" = none) (nb_sorted : mg "sorted" = none) (nb_tuple : mg "tuple" = none) {f : Addr} {cdv : Value} {A' : Around} {outer : List Env} {s : Shared} {H : Hp} {E : XK} (hr : Room 1 (A'.deeper (PyProof.Rows.envOfC "_law_greatest" (defScope s__law_greatest) s.heap.objs.size f cdv))) :
    DSs (cxOf CX0 P w K mg base ["lots", "unlike", "one", "two"] "_law_greatest" (defScope s__law_greatest) f cdv A' outer s H E).nox (defBody s__law_greatest) r__law_greatest := by
  have nd := sc__law_greatest.nd
  exact dss_cons (ds_asg (de_fz (dn_srtSet nb_sorted nb_set rfl hr.units (de_v 0))) (dg_name 1 nd)) (dss_one (ds_ret (de_callTy o_tuple nb_tuple boot_tuple_ (da_cons (de_fz (dn_lc (own := [("one", 2)]) rfl nd (di_seq (de_v 1)) (blkOk_by (own := [("one", 2)]) (by kernel_rfl)) (fun _ _ _ _ _ => dg_name 2 nd) (fun _ _ _ _ _ => dts_one (dt_cmp (o_eq hr.units) (de_fz (dn_lc (own := [("two", 3)]) rfl nd (di_seq (de_v 1)) (blkOk_by (own := [("two", 3)]) (by kernel_rfl)) (fun _ _ _ _ _ => dg_name 3 nd) (fun _ _ _ _ _ => dts_one (DW.dt (dw_and (dt_cmp (o_ne hr.units) (de_v 2) (de_v 3) (nomark _)) (dw_and1 (dt_val (de_cal c__law_within (hr.mono (by decide)) (da_cons (de_v 2) (da_cons (de_v 3) da_nil)))))))) (fun _ _ _ _ _ => de_int))) (de_fz (dn_lst da_nil)) (nomark _))) (fun _ _ _ _ _ => de_v 2))) da_nil))))
noncomputable def c__law_greatest {P : Program} {w : World} {K : PySem.W.Frag} {mg : Str → Option Value} {base : Heap} (A : FnA K mg "_law_greatest" s__law_greatest) (c__law_within : Cal P w K mg base "_law_within" 1 ["one", "two"] T__law_within) (nb_set : mg "set" = none) (nb_sorted : mg "sorted" = none) (nb_tuple : mg "tuple" = none) : Cal P w K mg base "_law_greatest" 2 ["lots"] T__law_greatest :=
  FnA.cal A sc__law_greatest (fun _ _ _ _ _ _ us hl => match us, hl with | [_], _ => rfl) (fun cdv A' outer s H E hr => d__law_greatest c__law_within nb_set nb_sorted nb_tuple hr) pure__law_greatest
abbrev s__law_drawn_lot : Stmt := topS 14
theorem sc__law_drawn_lot : FnScope ["box", "houses", "part", "house"] ["box", "houses", "part"] (defScope s__law_drawn_lot) := ⟨rfl, rfl, rfl, by decide +kernel, rfl, by decide +kernel, by decide +kernel⟩
set_option maxHeartbeats 4000000 in
theorem d__law_drawn_lot {P : Program} {w : World} {K : PySem.W.Frag} {mg : Str → Option Value} {base : Heap} (c__law_take : Cal P w K mg base "_law_take" 1 ["box", "many"] T__law_take) (nb_tuple : mg "tuple" = none) {f : Addr} {cdv : Value} {A' : Around} {outer : List Env} {s : Shared} {H : Hp} {E : XK} (hr : Room 1 (A'.deeper (PyProof.Rows.envOfC "_law_drawn_lot" (defScope s__law_drawn_lot) s.heap.objs.size f cdv))) :
    DSs (cxOf CX0 P w K mg base ["box", "houses", "part", "house"] "_law_drawn_lot" (defScope s__law_drawn_lot) f cdv A' outer s H E).nox (defBody s__law_drawn_lot) r__law_drawn_lot := by
  have nd := sc__law_drawn_lot.nd
  exact dss_one (ds_ret (de_callTy o_tuple nb_tuple boot_tuple_ (da_cons (de_fz (dn_lc (own := [("house", 3)]) rfl nd (di_seq (de_v 1)) (blkOk_by (own := [("house", 3)]) (by kernel_rfl)) (fun _ _ _ _ _ => dg_name 3 nd) (fun _ _ _ _ _ => dts_one (dt_cmp (o_eq hr.units) (de_cal c__law_take (hr.mono (by decide)) (da_cons (de_v 0) (da_cons (de_v 2) da_nil))) de_int (nomark _))) (fun _ _ _ _ _ => de_v 3))) da_nil)))
noncomputable def c__law_drawn_lot {P : Program} {w : World} {K : PySem.W.Frag} {mg : Str → Option Value} {base : Heap} (A : FnA K mg "_law_drawn_lot" s__law_drawn_lot) (c__law_take : Cal P w K mg base "_law_take" 1 ["box", "many"] T__law_take) (nb_tuple : mg "tuple" = none) : Cal P w K mg base "_law_drawn_lot" 2 ["box", "houses", "part"] T__law_drawn_lot :=
  FnA.cal A sc__law_drawn_lot (fun _ _ _ _ _ _ us hl => match us, hl with | [_, _, _], _ => rfl) (fun cdv A' outer s H E hr => d__law_drawn_lot c__law_take nb_tuple hr) pure__law_drawn_lot
abbrev s__law_may : Stmt := topS 16
theorem sc__law_may : FnScope ["liars", "lot", "one"] ["liars", "lot"] (defScope s__law_may) := ⟨rfl, rfl, rfl, by decide +kernel, rfl, by decide +kernel, by decide +kernel⟩
set_option maxHeartbeats 4000000 in
theorem d__law_may {P : Program} {w : World} {K : PySem.W.Frag} {mg : Str → Option Value} {base : Heap} (c__law_within : Cal P w K mg base "_law_within" 1 ["one", "two"] T__law_within) {f : Addr} {cdv : Value} {A' : Around} {outer : List Env} {s : Shared} {H : Hp} {E : XK} (hr : Room 1 (A'.deeper (PyProof.Rows.envOfC "_law_may" (defScope s__law_may) s.heap.objs.size f cdv))) :
    DSs (cxOf CX0 P w K mg base ["liars", "lot", "one"] "_law_may" (defScope s__law_may) f cdv A' outer s H E).nox (defBody s__law_may) r__law_may := by
  have nd := sc__law_may.nd
  exact dss_one (ds_ret (de_cmp (o_ne hr.units) (de_fz (dn_lc (own := [("one", 2)]) rfl nd (di_seq (de_v 0)) (blkOk_by (own := [("one", 2)]) (by kernel_rfl)) (fun _ _ _ _ _ => dg_name 2 nd) (fun _ _ _ _ _ => dts_one (dt_val (de_cal c__law_within (hr.mono (by decide)) (da_cons (de_v 1) (da_cons (de_v 2) da_nil))))) (fun _ _ _ _ _ => de_int))) (de_fz (dn_lst da_nil)) (nomark _)))
noncomputable def c__law_may {P : Program} {w : World} {K : PySem.W.Frag} {mg : Str → Option Value} {base : Heap} (A : FnA K mg "_law_may" s__law_may) (c__law_within : Cal P w K mg base "_law_within" 1 ["one", "two"] T__law_within) : Cal P w K mg base "_law_may" 2 ["liars", "lot"] T__law_may :=
  FnA.cal A sc__law_may (fun _ _ _ _ _ _ us hl => match us, hl with | [_, _], _ => rfl) (fun cdv A' outer s H E hr => d__law_may c__law_within hr) pure__law_may
abbrev s_newest_told : Stmt := topS 6
theorem sc_newest_told : FnScope ["liars", "told", "sure", "number"] ["liars", "told"] (defScope s_newest_told) := ⟨rfl, rfl, rfl, by decide +kernel, rfl, by decide +kernel, by decide +kernel⟩
set_option maxHeartbeats 4000000 in
theorem d_newest_told {P : Program} {w : World} {K : PySem.W.Frag} {mg : Str → Option Value} {base : Heap} (c_may_lie : Cal P w K mg base "may_lie" 2 ["liars", "lot"] T_may_lie) (c_tellers_of : Cal P w K mg base "tellers_of" 1 ["told", "number"] T_tellers_of) (nb_len : mg "len" = none) (nb_max : mg "max" = none) {f : Addr} {cdv : Value} {A' : Around} {outer : List Env} {s : Shared} {H : Hp} {E : XK} (hr : Room 2 (A'.deeper (PyProof.Rows.envOfC "newest_told" (defScope s_newest_told) s.heap.objs.size f cdv))) :
    DSs (cxOf CX0 P w K mg base ["liars", "told", "sure", "number"] "newest_told" (defScope s_newest_told) f cdv A' outer s H E).nox (defBody s_newest_told) r_newest_told := by
  have nd := sc_newest_told.nd
  exact dss_cons (ds_asgLc (i := 2) (own := [("number", 3)]) rfl nd (di_seq (de_v 1)) (blkOk_by (own := [("number", 3)]) (by kernel_rfl)) (fun _ _ _ _ _ => dg_name 3 nd) (fun _ _ _ _ _ => dts_one (DW.dt (dw_and (dt_cmp o_isNot (de_v 3) de_non (nomark _)) (dw_and1 (dt_not (dt_val (de_cal c_may_lie (hr.mono (by decide)) (da_cons (de_v 0) (da_cons (de_cal c_tellers_of (hr.mono (by decide)) (da_cons (de_v 1) (da_cons (de_v 3) da_nil))) da_nil))))))))) (fun _ _ _ _ _ => de_v 3)) (dss_one (ds_ret (de_if (dt_cmp o_gt (de_callB o_len nb_len boot_len_ (da_cons (de_v 2) da_nil)) de_int (nomark _)) (de_callB (o_max rfl) nb_max boot_max_ (da_cons (de_v 2) da_nil)) de_non)))
noncomputable def c_newest_told {P : Program} {w : World} {K : PySem.W.Frag} {mg : Str → Option Value} {base : Heap} (A : FnA K mg "newest_told" s_newest_told) (c_may_lie : Cal P w K mg base "may_lie" 2 ["liars", "lot"] T_may_lie) (c_tellers_of : Cal P w K mg base "tellers_of" 1 ["told", "number"] T_tellers_of) (nb_len : mg "len" = none) (nb_max : mg "max" = none) : Cal P w K mg base "newest_told" 3 ["liars", "told"] T_newest_told :=
  FnA.cal A sc_newest_told (fun _ _ _ _ _ _ us hl => match us, hl with | [_, _], _ => rfl) (fun cdv A' outer s H E hr => d_newest_told c_may_lie c_tellers_of nb_len nb_max hr) pure_newest_told
abbrev s__law_liars : Stmt := topS 15
theorem sc__law_liars : FnScope ["box", "many", "houses", "way", "size", "found", "house", "lots", "one", "turn"] ["box", "many"] (defScope s__law_liars) := ⟨rfl, rfl, rfl, by decide +kernel, rfl, by decide +kernel, by decide +kernel⟩
set_option maxHeartbeats 4000000 in
theorem d__law_liars {P : Program} {w : World} {K : PySem.W.Frag} {mg : Str → Option Value} {base : Heap} (c__law_greatest : Cal P w K mg base "_law_greatest" 2 ["lots"] T__law_greatest) (c__law_take : Cal P w K mg base "_law_take" 1 ["box", "many"] T__law_take) (c__law_drawn_lot : Cal P w K mg base "_law_drawn_lot" 2 ["box", "houses", "part"] T__law_drawn_lot) (c__law_pick : Cal P w K mg base "_law_pick" 2 ["box", "some"] T__law_pick) (nb_len : mg "len" = none) (nb_range : mg "range" = none) (nb_tuple : mg "tuple" = none) {f : Addr} {cdv : Value} {A' : Around} {outer : List Env} {s : Shared} {H : Hp} {E : XK} (hr : Room 2 (A'.deeper (PyProof.Rows.envOfC "_law_liars" (defScope s__law_liars) s.heap.objs.size f cdv))) :
    DSs (cxOf CX0 P w K mg base ["box", "many", "houses", "way", "size", "found", "house", "lots", "one", "turn"] "_law_liars" (defScope s__law_liars) f cdv A' outer s H E).nox (defBody s__law_liars) r__law_liars := by
  have nd := sc__law_liars.nd
  exact dss_cons (ds_asg (de_tup (da_cons (de_tupRg1 nb_tuple nb_range rfl (de_v 1)) (da_cons (de_cal c__law_take (hr.mono (by decide)) (da_cons (de_v 0) (da_cons de_int da_nil))) da_nil))) (dg_tup rfl (dgs_cons (dg_name 2 nd) (dgs_cons (dg_name 3 nd) dgs_nil)))) (dss_cons (ds_if (dt_cmp (o_eq hr.units) (de_v 3) de_int (nomark _)) (dss_one (ds_ret (de_tup (da_cons (de_tup da_nil) da_nil)))) dss_nil) (dss_cons (ds_if (dt_cmp o_lt (de_v 3) de_int (nomark _)) (dss_cons (ds_asg (de_cal c__law_take (hr.mono (by decide)) (da_cons (de_v 0) (da_cons (de_op o_add (de_v 1) de_int) da_nil))) (dg_name 4 nd)) (dss_cons (ds_asg (de_fz (dn_lst (da_cons (de_tup da_nil) da_nil))) (dg_name 5 nd)) (dss_cons (ds_for rfl (di_seq (de_v 2)) (dg_name 6 nd) (dss_one (ds_asg (de_op o_add (de_v 5) (de_fz (dn_lc (own := [("one", 8)]) rfl nd (di_seq (de_v 5)) (blkOk_by (own := [("one", 8)]) (by kernel_rfl)) (fun _ _ _ _ _ => dg_name 8 nd) (fun _ _ _ _ _ => dts_one (dt_cmp o_lt (de_callB o_len nb_len boot_len_ (da_cons (de_v 8) da_nil)) (de_v 4) (nomark _))) (fun _ _ _ _ _ => de_op o_add (de_v 8) (de_tup (da_cons (de_v 6) da_nil)))))) (dg_name 5 nd)))) (dss_one (ds_ret (de_cal c__law_greatest (hr.mono (by decide)) (da_cons (de_sl (de_fz (dn_lc (own := [("one", 8)]) rfl nd (di_seq (de_v 5)) (blkOk_by (own := [("one", 8)]) (by kernel_rfl)) (fun _ _ _ _ _ => dg_name 8 nd) (fun _ _ _ _ _ => dts_one (dt_cmp (o_eq hr.units) (de_callB o_len nb_len boot_len_ (da_cons (de_v 8) da_nil)) (de_v 4) (nomark _))) (fun _ _ _ _ _ => de_v 8))) dp_none (dp_some de_int)) da_nil))))))) dss_nil) (dss_cons (ds_asgLc (i := 7) (own := [("turn", 9)]) rfl nd (di_rng1 (da_cons (de_op o_add de_int (de_cal c__law_take (hr.mono (by decide)) (da_cons (de_v 0) (da_cons de_int da_nil)))) da_nil) nb_range) (blkOk_by (own := [("turn", 9)]) (by kernel_rfl)) (fun _ _ _ _ _ => dg_name 9 nd) (fun _ _ _ _ _ => dts_nil) (fun _ _ _ _ _ => de_cal c__law_drawn_lot (hr.mono (by decide)) (da_cons (de_v 0) (da_cons (de_v 2) (da_cons (de_cal c__law_pick (hr.mono (by decide)) (da_cons (de_v 0) (da_cons (de_fz (dn_lst (da_cons de_int (da_cons de_int (da_cons de_int da_nil))))) da_nil))) da_nil))))) (dss_one (ds_ret (de_cal c__law_greatest (hr.mono (by decide)) (da_cons (de_v 7) da_nil)))))))
noncomputable def c__law_liars {P : Program} {w : World} {K : PySem.W.Frag} {mg : Str → Option Value} {base : Heap} (A : FnA K mg "_law_liars" s__law_liars) (c__law_greatest : Cal P w K mg base "_law_greatest" 2 ["lots"] T__law_greatest) (c__law_take : Cal P w K mg base "_law_take" 1 ["box", "many"] T__law_take) (c__law_drawn_lot : Cal P w K mg base "_law_drawn_lot" 2 ["box", "houses", "part"] T__law_drawn_lot) (c__law_pick : Cal P w K mg base "_law_pick" 2 ["box", "some"] T__law_pick) (nb_len : mg "len" = none) (nb_range : mg "range" = none) (nb_tuple : mg "tuple" = none) : Cal P w K mg base "_law_liars" 3 ["box", "many"] T__law_liars :=
  FnA.cal A sc__law_liars (fun _ _ _ _ _ _ us hl => match us, hl with | [_, _], _ => rfl) (fun cdv A' outer s H E hr => d__law_liars c__law_greatest c__law_take c__law_drawn_lot c__law_pick nb_len nb_range nb_tuple hr) pure__law_liars
abbrev s__law_history : Stmt := topS 17
theorem sc__law_history : FnScope ["box", "many", "liars", "number", "missed", "holds", "lots", "house", "turn"] ["box", "many", "liars"] (defScope s__law_history) := ⟨rfl, rfl, rfl, by decide +kernel, rfl, by decide +kernel, by decide +kernel⟩
set_option maxHeartbeats 4000000 in
theorem d__law_history {P : Program} {w : World} {K : PySem.W.Frag} {mg : Str → Option Value} {base : Heap} (c__law_take : Cal P w K mg base "_law_take" 1 ["box", "many"] T__law_take) (c__law_drawn_lot : Cal P w K mg base "_law_drawn_lot" 2 ["box", "houses", "part"] T__law_drawn_lot) (c__law_pick : Cal P w K mg base "_law_pick" 2 ["box", "some"] T__law_pick) (nb_range : mg "range" = none) (nb_tuple : mg "tuple" = none) {f : Addr} {cdv : Value} {A' : Around} {outer : List Env} {s : Shared} {H : Hp} {E : XK} (hr : Room 2 (A'.deeper (PyProof.Rows.envOfC "_law_history" (defScope s__law_history) s.heap.objs.size f cdv))) :
    DSs (cxOf CX0 P w K mg base ["box", "many", "liars", "number", "missed", "holds", "lots", "house", "turn"] "_law_history" (defScope s__law_history) f cdv A' outer s H E).nox (defBody s__law_history) r__law_history := by
  have nd := sc__law_history.nd
  exact dss_cons (ds_asg (de_tup (da_cons (de_cal c__law_take (hr.mono (by decide)) (da_cons (de_v 0) (da_cons de_int da_nil))) (da_cons (de_cal c__law_drawn_lot (hr.mono (by decide)) (da_cons (de_v 0) (da_cons (de_cal c__law_pick (hr.mono (by decide)) (da_cons (de_v 0) (da_cons (de_v 2) da_nil))) (da_cons de_int da_nil)))) da_nil))) (dg_tup rfl (dgs_cons (dg_name 3 nd) (dgs_cons (dg_name 4 nd) dgs_nil)))) (dss_cons (ds_asg (de_callTy o_tuple nb_tuple boot_tuple_ (da_cons (de_fz (dn_lc (own := [("house", 7)]) rfl nd (di_rng1 (da_cons (de_v 1) da_nil) nb_range) (blkOk_by (own := [("house", 7)]) (by kernel_rfl)) (fun _ _ _ _ _ => dg_name 7 nd) (fun _ _ _ _ _ => dts_nil) (fun _ _ _ _ _ => de_if (DW.dt (dw_and (dt_cmp o_in (de_v 7) (de_v 4) (by rfl)) (dw_and1 (dt_cmp o_gt (de_v 3) de_int (nomark _))))) (de_cal c__law_take (hr.mono (by decide)) (da_cons (de_v 0) (da_cons (de_v 3) da_nil))) (de_v 3)))) da_nil)) (dg_name 5 nd)) (dss_cons (ds_asgLc (i := 6) (own := [("turn", 8)]) rfl nd (di_rng1 (da_cons de_int da_nil) nb_range) (blkOk_by (own := [("turn", 8)]) (by kernel_rfl)) (fun _ _ _ _ _ => dg_name 8 nd) (fun _ _ _ _ _ => dts_nil) (fun _ _ _ _ _ => de_cal c__law_pick (hr.mono (by decide)) (da_cons (de_v 0) (da_cons (de_fz (dn_lst (da_cons (de_cal c__law_pick (hr.mono (by decide)) (da_cons (de_v 0) (da_cons (de_v 2) da_nil))) (da_cons (de_cal c__law_drawn_lot (hr.mono (by decide)) (da_cons (de_v 0) (da_cons (de_cal c__law_pick (hr.mono (by decide)) (da_cons (de_v 0) (da_cons (de_v 2) da_nil))) (da_cons de_int da_nil)))) da_nil)))) da_nil)))) (dss_one (ds_ret (de_tup (da_cons (de_v 3) (da_cons (de_v 5) (da_cons (de_ix o_ix (de_v 6) de_int (fun _ _ => rfl)) (da_cons (de_ix o_ix (de_v 6) de_int (fun _ _ => rfl)) da_nil)))))))))
noncomputable def c__law_history {P : Program} {w : World} {K : PySem.W.Frag} {mg : Str → Option Value} {base : Heap} (A : FnA K mg "_law_history" s__law_history) (c__law_take : Cal P w K mg base "_law_take" 1 ["box", "many"] T__law_take) (c__law_drawn_lot : Cal P w K mg base "_law_drawn_lot" 2 ["box", "houses", "part"] T__law_drawn_lot) (c__law_pick : Cal P w K mg base "_law_pick" 2 ["box", "some"] T__law_pick) (nb_range : mg "range" = none) (nb_tuple : mg "tuple" = none) : Cal P w K mg base "_law_history" 3 ["box", "many", "liars"] T__law_history :=
  FnA.cal A sc__law_history (fun _ _ _ _ _ _ us hl => match us, hl with | [_, _, _], _ => rfl) (fun cdv A' outer s H E hr => d__law_history c__law_take c__law_drawn_lot c__law_pick nb_range nb_tuple hr) pure__law_history
abbrev s__law_told_by : Stmt := topS 18
theorem sc__law_told_by : FnScope ["box", "history", "signed", "number", "holds", "silent", "lot", "way", "told", "house", "said"] ["box", "history", "signed"] (defScope s__law_told_by) := ⟨rfl, rfl, rfl, by decide +kernel, rfl, by decide +kernel, by decide +kernel⟩
set_option maxHeartbeats 4000000 in
theorem d__law_told_by {P : Program} {w : World} {K : PySem.W.Frag} {mg : Str → Option Value} {base : Heap} (c__law_take : Cal P w K mg base "_law_take" 1 ["box", "many"] T__law_take) (c__law_pick : Cal P w K mg base "_law_pick" 2 ["box", "some"] T__law_pick) (nb_len : mg "len" = none) (nb_min : mg "min" = none) (nb_range : mg "range" = none) (nb_tuple : mg "tuple" = none) {f : Addr} {cdv : Value} {A' : Around} {outer : List Env} {s : Shared} {H : Hp} {E : XK} (hr : Room 2 (A'.deeper (PyProof.Rows.envOfC "_law_told_by" (defScope s__law_told_by) s.heap.objs.size f cdv))) :
    DSs (cxOf CX0 P w K mg base ["box", "history", "signed", "number", "holds", "silent", "lot", "way", "told", "house", "said"] "_law_told_by" (defScope s__law_told_by) f cdv A' outer s H E).nox (defBody s__law_told_by) r__law_told_by := by
  have nd := sc__law_told_by.nd
  exact dss_cons (ds_asg (de_v 1) (dg_tup rfl (dgs_cons (dg_name 3 nd) (dgs_cons (dg_name 4 nd) (dgs_cons (dg_name 5 nd) (dgs_cons (dg_name 6 nd) dgs_nil)))))) (dss_cons (ds_par rfl nd (by decide) (dm_val (de_cal c__law_take (hr.mono (by decide)) (da_cons (de_v 0) (da_cons de_int da_nil))) (dm_new (dn_lst da_nil) dm_nil))) (dss_cons (ds_for rfl (di_rng1 (da_cons (de_callB o_len nb_len boot_len_ (da_cons (de_v 4) da_nil)) da_nil) nb_range) (dg_name 9 nd) (dss_one (ds_if (dt_cmp o_in (de_v 9) (de_v 5) (by rfl)) (dss_one (ds_expr (de_append (i := 8) rfl de_non))) (dss_one (ds_if (dt_cmp o_in (de_v 9) (de_v 6) (by rfl)) (dss_cons (ds_asg (de_ix o_ix (de_fz (dn_lst (da_cons (de_cal c__law_pick (hr.mono (by decide)) (da_cons (de_v 0) (da_cons (de_fz (dn_lst (da_cons de_non (da_cons de_int (da_cons (de_op o_add (de_v 3) de_int) (da_cons (de_cal c__law_take (hr.mono (by decide)) (da_cons (de_v 0) (da_cons de_int da_nil))) da_nil)))))) da_nil))) (da_cons (de_op o_add (de_v 3) de_int) (da_cons (de_cal c__law_take (hr.mono (by decide)) (da_cons (de_v 0) (da_cons (de_op o_add (de_v 3) de_int) da_nil))) da_nil))))) (de_v 7) (fun _ _ => rfl)) (dg_name 10 nd)) (dss_one (ds_expr (de_append (i := 8) rfl (de_if (DW.dt (dw_or (dt_cmp o_is (de_v 10) de_non (nomark _)) (dw_or1 (dt_not (dt_val (de_v 2)))))) (de_v 10) (de_callB (o_min2 rfl) nb_min boot_min_ (da_cons (de_v 10) (da_cons (de_v 3) da_nil)))))))) (dss_one (ds_expr (de_append (i := 8) rfl (de_ix o_ix (de_v 4) (de_v 9) (fun _ _ => rfl)))))))))) (dss_one (ds_ret (de_callTy o_tuple nb_tuple boot_tuple_ (da_cons (de_v 8) da_nil))))))
noncomputable def c__law_told_by {P : Program} {w : World} {K : PySem.W.Frag} {mg : Str → Option Value} {base : Heap} (A : FnA K mg "_law_told_by" s__law_told_by) (c__law_take : Cal P w K mg base "_law_take" 1 ["box", "many"] T__law_take) (c__law_pick : Cal P w K mg base "_law_pick" 2 ["box", "some"] T__law_pick) (nb_len : mg "len" = none) (nb_min : mg "min" = none) (nb_range : mg "range" = none) (nb_tuple : mg "tuple" = none) : Cal P w K mg base "_law_told_by" 3 ["box", "history", "signed"] T__law_told_by :=
  FnA.cal A sc__law_told_by (fun _ _ _ _ _ _ us hl => match us, hl with | [_, _, _], _ => rfl) (fun cdv A' outer s H E hr => d__law_told_by c__law_take c__law_pick nb_len nb_min nb_range nb_tuple hr) pure__law_told_by
abbrev s__law_newest : Stmt := topS 19
theorem sc__law_newest : FnScope ["liars", "told", "sure", "one", "house"] ["liars", "told"] (defScope s__law_newest) := ⟨rfl, rfl, rfl, by decide +kernel, rfl, by decide +kernel, by decide +kernel⟩
set_option maxHeartbeats 4000000 in
theorem d__law_newest {P : Program} {w : World} {K : PySem.W.Frag} {mg : Str → Option Value} {base : Heap} (c__law_may : Cal P w K mg base "_law_may" 2 ["liars", "lot"] T__law_may) (nb_len : mg "len" = none) (nb_max : mg "max" = none) (nb_range : mg "range" = none) (nb_tuple : mg "tuple" = none) {f : Addr} {cdv : Value} {A' : Around} {outer : List Env} {s : Shared} {H : Hp} {E : XK} (hr : Room 2 (A'.deeper (PyProof.Rows.envOfC "_law_newest" (defScope s__law_newest) s.heap.objs.size f cdv))) :
    DSs (cxOf CX0 P w K mg base ["liars", "told", "sure", "one", "house"] "_law_newest" (defScope s__law_newest) f cdv A' outer s H E).nox (defBody s__law_newest) r__law_newest := by
  have nd := sc__law_newest.nd
  exact dss_cons (ds_asgLc (i := 2) (own := [("one", 3)]) rfl nd (di_seq (de_v 1)) (blkOk_by (own := [("one", 3)]) (by kernel_rfl)) (fun _ _ _ _ _ => dg_name 3 nd) (fun _ _ _ _ _ => dts_one (DW.dt (dw_and (dt_cmp o_isNot (de_v 3) de_non (nomark _)) (dw_and1 (dt_not (dt_val (de_cal c__law_may (hr.mono (by decide)) (da_cons (de_v 0) (da_cons (de_callTy o_tuple nb_tuple boot_tuple_ (da_cons (de_fz (dn_lc (own := [("house", 4)]) rfl nd (di_rng1 (da_cons (de_callB o_len nb_len boot_len_ (da_cons (de_v 1) da_nil)) da_nil) nb_range) (blkOk_by (own := [("house", 4)]) (by kernel_rfl)) (fun _ _ _ _ _ => dg_name 4 nd) (fun _ _ _ _ _ => dts_one (dt_cmp (o_eq hr.units) (de_ix o_ix (de_v 1) (de_v 4) (fun _ _ => rfl)) (de_v 3) (nomark _))) (fun _ _ _ _ _ => de_v 4))) da_nil)) da_nil))))))))) (fun _ _ _ _ _ => de_v 3)) (dss_one (ds_ret (de_if (dt_cmp (o_ne hr.units) (de_v 2) (de_fz (dn_lst da_nil)) (nomark _)) (de_callB (o_max rfl) nb_max boot_max_ (da_cons (de_v 2) da_nil)) de_non)))
noncomputable def c__law_newest {P : Program} {w : World} {K : PySem.W.Frag} {mg : Str → Option Value} {base : Heap} (A : FnA K mg "_law_newest" s__law_newest) (c__law_may : Cal P w K mg base "_law_may" 2 ["liars", "lot"] T__law_may) (nb_len : mg "len" = none) (nb_max : mg "max" = none) (nb_range : mg "range" = none) (nb_tuple : mg "tuple" = none) : Cal P w K mg base "_law_newest" 3 ["liars", "told"] T__law_newest :=
  FnA.cal A sc__law_newest (fun _ _ _ _ _ _ us hl => match us, hl with | [_, _], _ => rfl) (fun cdv A' outer s H E hr => d__law_newest c__law_may nb_len nb_max nb_range nb_tuple hr) pure__law_newest
abbrev s_law : Stmt := topS 21
theorem sc_law : FnScope ["script", "k", "box", "many", "liars", "turn", "history", "number", "holds", "silent", "lot", "told", "first", "house", "more", "signed", "one"] ["script"] (defScope s_law) := ⟨rfl, rfl, rfl, by decide +kernel, rfl, by decide +kernel, by decide +kernel⟩
set_option maxHeartbeats 4000000 in
theorem d_law {P : Program} {w : World} {K : PySem.W.Frag} {mg : Str → Option Value} {base : Heap} (c__law_box : Cal P w K mg base "_law_box" 1 ["script", "k"] T__law_box) (c__law_liars : Cal P w K mg base "_law_liars" 3 ["box", "many"] T__law_liars) (c_newest_told : Cal P w K mg base "newest_told" 3 ["liars", "told"] T_newest_told) (c__law_like : Cal P w K mg base "_law_like" 1 ["told", "due"] T__law_like) (c__law_take : Cal P w K mg base "_law_take" 1 ["box", "many"] T__law_take) (c__law_history : Cal P w K mg base "_law_history" 3 ["box", "many", "liars"] T__law_history) (c_newest_signed : Cal P w K mg base "newest_signed" 1 ["told"] T_newest_signed) (c__law_told_by : Cal P w K mg base "_law_told_by" 3 ["box", "history", "signed"] T__law_told_by) (c__law_newest : Cal P w K mg base "_law_newest" 3 ["liars", "told"] T__law_newest) (nb_enumerate : mg "enumerate" = none) (nb_len : mg "len" = none) (nb_list : mg "list" = none) (nb_max : mg "max" = none) (nb_min : mg "min" = none) (nb_range : mg "range" = none) (nb_tuple : mg "tuple" = none) {f : Addr} {cdv : Value} {A' : Around} {outer : List Env} {s : Shared} {H : Hp} {E : XK} (hr : Room 3 (A'.deeper (PyProof.Rows.envOfC "law" (defScope s_law) s.heap.objs.size f cdv))) :
    DSs (cxOf CX0 P w K mg base ["script", "k", "box", "many", "liars", "turn", "history", "number", "holds", "silent", "lot", "told", "first", "house", "more", "signed", "one"] "law" (defScope s_law) f cdv A' outer s H E).nox (defBody s_law) r_law := by
  have nd := sc_law.nd
  exact dss_cons (ds_if (DW.dt (dw_or (dt_cmp o_isNot (de_cal c_newest_told (hr.mono (by decide)) (da_cons (de_tup (da_cons (de_tup (da_cons de_int (da_cons de_int da_nil))) (da_cons (de_tup (da_cons de_int da_nil)) da_nil))) (da_cons (de_tup (da_cons de_int (da_cons de_int (da_cons de_int da_nil)))) da_nil))) de_non (nomark _)) (dw_or1 (dt_not (dt_val (de_cal c__law_like (hr.mono (by decide)) (da_cons (de_cal c_newest_told (hr.mono (by decide)) (da_cons (de_tup (da_cons (de_tup (da_cons de_int (da_cons de_int da_nil))) (da_cons (de_tup (da_cons de_int da_nil)) da_nil))) (da_cons (de_tup (da_cons de_int (da_cons de_int (da_cons de_int da_nil)))) da_nil))) (da_cons de_int da_nil)))))))) (dss_one (ds_ret de_bl)) dss_nil) (dss_cons (ds_for rfl (di_rng1 (da_cons (de_callB (o_max2 rfl) nb_max boot_max_ (da_cons de_int (da_cons (de_callB (o_min2 rfl) nb_min boot_min_ (da_cons (de_scrLen 0 nb_len) (da_cons de_int da_nil))) da_nil))) da_nil) nb_range) (dg_name 1 nd) (dss_cons (ds_asgN (i := 2) (dn_cal c__law_box (hr.mono (by decide)) (da_cons (de_v 0) (da_cons (de_v 1) da_nil))) nd) (dss_cons (ds_asg (de_op o_add de_int (de_cal c__law_take (hr.mono (by decide)) (da_cons (de_v 2) (da_cons de_int da_nil)))) (dg_name 3 nd)) (dss_cons (ds_asg (de_cal c__law_liars (hr.mono (by decide)) (da_cons (de_v 2) (da_cons (de_v 3) da_nil))) (dg_name 4 nd)) (dss_one (ds_for rfl (di_rng1 (da_cons de_int da_nil) nb_range) (dg_name 5 nd) (dss_cons (ds_asg (de_cal c__law_history (hr.mono (by decide)) (da_cons (de_v 2) (da_cons (de_v 3) (da_cons (de_v 4) da_nil)))) (dg_name 6 nd)) (dss_cons (ds_asg (de_v 6) (dg_tup rfl (dgs_cons (dg_name 7 nd) (dgs_cons (dg_name 8 nd) (dgs_cons (dg_name 9 nd) (dgs_cons (dg_name 10 nd) dgs_nil)))))) (dss_cons (ds_or (ds_asgN (i := 11) (dn_callTy o_list nb_list boot_list_ (da_cons (de_cal c__law_told_by (hr.mono (by decide)) (da_cons (de_v 2) (da_cons (de_v 6) (da_cons de_bl da_nil)))) da_nil)) nd) (ds_asg (de_fz (dn_callTy o_list nb_list boot_list_ (da_cons (de_cal c__law_told_by (hr.mono (by decide)) (da_cons (de_v 2) (da_cons (de_v 6) (da_cons de_bl da_nil)))) da_nil))) (dg_name 11 nd))) (dss_cons (ds_if (dt_cmp (o_eq hr.units) (de_v 5) de_int (nomark _)) (dss_one (ds_asgLcN (i := 11) (own := [("house", 13), ("one", 16)]) rfl nd (di_enum nb_enumerate (de_v 11)) (blkOk_by (own := [("house", 13), ("one", 16)]) (by kernel_rfl)) (fun _ _ _ _ _ => dg_tup rfl (dgs_cons (dg_name 13 nd) (dgs_cons (dg_name 16 nd) dgs_nil))) (fun _ _ _ _ _ => dts_nil) (fun _ _ _ _ _ => de_if (DW.dt (dw_and (dt_cmp o_in (de_v 13) (de_v 10) (by rfl)) (dw_and1 (dt_cmp o_notIn (de_v 13) (de_v 9) (by rfl))))) (de_op o_add (de_v 7) de_int) (de_v 16)))) dss_nil) (dss_cons (ds_asg (de_cal c_newest_told (hr.mono (by decide)) (da_cons (de_v 4) (da_cons (de_callTy o_tuple nb_tuple boot_tuple_ (da_cons (de_v 11) da_nil)) da_nil))) (dg_name 12 nd)) (dss_cons (ds_if (dt_not (dt_val (de_cal c__law_like (hr.mono (by decide)) (da_cons (de_v 12) (da_cons (de_cal c__law_newest (hr.mono (by decide)) (da_cons (de_v 4) (da_cons (de_v 11) da_nil))) da_nil))))) (dss_one (ds_ret de_bl)) dss_nil) (dss_cons (ds_if (DW.dt (dw_and (dt_cmp o_isNot (de_v 12) de_non (nomark _)) (dw_and1 (DW.dt (dw_or (dt_cmp o_gt (de_v 12) (de_v 7) (nomark _)) (dw_or1 (dt_cmp o_notIn (de_v 12) (de_fz (dn_lc (own := [("house", 13)]) rfl nd (di_rng1 (da_cons (de_v 3) da_nil) nb_range) (blkOk_by (own := [("house", 13)]) (by kernel_rfl)) (fun _ _ _ _ _ => dg_name 13 nd) (fun _ _ _ _ _ => dts_one (dt_cmp o_notIn (de_v 13) (de_v 10) (by rfl))) (fun _ _ _ _ _ => de_ix o_ix (de_v 8) (de_v 13) (fun _ _ => rfl)))) (by rfl)))))))) (dss_one (ds_ret de_bl)) dss_nil) (dss_cons (ds_for rfl (di_seq (de_sl (de_fz (dn_lc (own := [("one", 16)]) rfl nd (di_seq (de_v 9)) (blkOk_by (own := [("one", 16)]) (by kernel_rfl)) (fun _ _ _ _ _ => dg_name 16 nd) (fun _ _ _ _ _ => dts_one (dt_cmp o_notIn (de_v 16) (de_v 10) (by rfl))) (fun _ _ _ _ _ => de_v 16))) dp_none (dp_some de_int))) (dg_name 13 nd) (dss_cons (ds_setAt (i := 11) rfl (de_ix o_ix (de_v 8) (de_v 13) (fun _ _ => rfl)) (de_v 13)) (dss_cons (ds_asg (de_cal c_newest_told (hr.mono (by decide)) (da_cons (de_v 4) (da_cons (de_callTy o_tuple nb_tuple boot_tuple_ (da_cons (de_v 11) da_nil)) da_nil))) (dg_name 14 nd)) (dss_cons (ds_if (DW.dt (dw_and (dt_cmp o_isNot (de_v 12) de_non (nomark _)) (dw_and1 (DW.dt (dw_or (dt_cmp o_is (de_v 14) de_non (nomark _)) (dw_or1 (dt_cmp o_lt (de_v 14) (de_v 12) (nomark _)))))))) (dss_one (ds_ret de_bl)) dss_nil) (dss_one (ds_asg (de_v 14) (dg_name 12 nd))))))) (dss_cons (ds_asg (de_cal c_newest_signed (hr.mono (by decide)) (da_cons (de_cal c__law_told_by (hr.mono (by decide)) (da_cons (de_v 2) (da_cons (de_v 6) (da_cons de_bl da_nil)))) da_nil)) (dg_name 15 nd)) (dss_one (ds_if (DW.dt (dw_and (dt_cmp o_isNot (de_v 15) de_non (nomark _)) (dw_and1 (dt_cmp o_gt (de_v 15) (de_v 7) (nomark _))))) (dss_one (ds_ret de_bl)) dss_nil))))))))))))))))) (dss_one (ds_ret de_bl)))
noncomputable def c_law {P : Program} {w : World} {K : PySem.W.Frag} {mg : Str → Option Value} {base : Heap} (A : FnA K mg "law" s_law) (c__law_box : Cal P w K mg base "_law_box" 1 ["script", "k"] T__law_box) (c__law_liars : Cal P w K mg base "_law_liars" 3 ["box", "many"] T__law_liars) (c_newest_told : Cal P w K mg base "newest_told" 3 ["liars", "told"] T_newest_told) (c__law_like : Cal P w K mg base "_law_like" 1 ["told", "due"] T__law_like) (c__law_take : Cal P w K mg base "_law_take" 1 ["box", "many"] T__law_take) (c__law_history : Cal P w K mg base "_law_history" 3 ["box", "many", "liars"] T__law_history) (c_newest_signed : Cal P w K mg base "newest_signed" 1 ["told"] T_newest_signed) (c__law_told_by : Cal P w K mg base "_law_told_by" 3 ["box", "history", "signed"] T__law_told_by) (c__law_newest : Cal P w K mg base "_law_newest" 3 ["liars", "told"] T__law_newest) (nb_enumerate : mg "enumerate" = none) (nb_len : mg "len" = none) (nb_list : mg "list" = none) (nb_max : mg "max" = none) (nb_min : mg "min" = none) (nb_range : mg "range" = none) (nb_tuple : mg "tuple" = none) : Cal P w K mg base "law" 4 ["script"] T_law :=
  FnA.cal A sc_law (fun _ _ _ _ _ _ us hl => match us, hl with | [_], _ => rfl) (fun cdv A' outer s H E hr => d_law c__law_box c__law_liars c_newest_told c__law_like c__law_take c__law_history c_newest_signed c__law_told_by c__law_newest nb_enumerate nb_len nb_list nb_max nb_min nb_range nb_tuple hr) pure_law
end Dl.W_k89

namespace Dl.W_k89
open PySem PySem.Spec PyProof.Rows L2
def e_is_within : He.DefD := ⟨("is_within", none), "is_within", "is_within", defArgs s_is_within, defBody s_is_within, defScope s_is_within, [], []⟩
def e_tellers_of : He.DefD := ⟨("tellers_of", none), "tellers_of", "tellers_of", defArgs s_tellers_of, defBody s_tellers_of, defScope s_tellers_of, [], []⟩
def e_newest_signed : He.DefD := ⟨("newest_signed", none), "newest_signed", "newest_signed", defArgs s_newest_signed, defBody s_newest_signed, defScope s_newest_signed, [], []⟩
def e__law_take : He.DefD := ⟨("_law_take", none), "_law_take", "_law_take", defArgs s__law_take, defBody s__law_take, defScope s__law_take, [], []⟩
def e__law_like : He.DefD := ⟨("_law_like", none), "_law_like", "_law_like", defArgs s__law_like, defBody s__law_like, defScope s__law_like, [], []⟩
def e__law_within : He.DefD := ⟨("_law_within", none), "_law_within", "_law_within", defArgs s__law_within, defBody s__law_within, defScope s__law_within, [], []⟩
def e__law_box : He.DefD := ⟨("_law_box", none), "_law_box", "_law_box", defArgs s__law_box, defBody s__law_box, defScope s__law_box, [], []⟩
def e_may_lie : He.DefD := ⟨("may_lie", none), "may_lie", "may_lie", defArgs s_may_lie, defBody s_may_lie, defScope s_may_lie, [], []⟩
def e__law_pick : He.DefD := ⟨("_law_pick", none), "_law_pick", "_law_pick", defArgs s__law_pick, defBody s__law_pick, defScope s__law_pick, [], []⟩
def e__law_greatest : He.DefD := ⟨("_law_greatest", none), "_law_greatest", "_law_greatest", defArgs s__law_greatest, defBody s__law_greatest, defScope s__law_greatest, [], []⟩
def e__law_drawn_lot : He.DefD := ⟨("_law_drawn_lot", none), "_law_drawn_lot", "_law_drawn_lot", defArgs s__law_drawn_lot, defBody s__law_drawn_lot, defScope s__law_drawn_lot, [], []⟩
def e__law_may : He.DefD := ⟨("_law_may", none), "_law_may", "_law_may", defArgs s__law_may, defBody s__law_may, defScope s__law_may, [], []⟩
def e_newest_told : He.DefD := ⟨("newest_told", none), "newest_told", "newest_told", defArgs s_newest_told, defBody s_newest_told, defScope s_newest_told, [], []⟩
def e__law_liars : He.DefD := ⟨("_law_liars", none), "_law_liars", "_law_liars", defArgs s__law_liars, defBody s__law_liars, defScope s__law_liars, [], []⟩
def e__law_history : He.DefD := ⟨("_law_history", none), "_law_history", "_law_history", defArgs s__law_history, defBody s__law_history, defScope s__law_history, [], []⟩
def e__law_told_by : He.DefD := ⟨("_law_told_by", none), "_law_told_by", "_law_told_by", defArgs s__law_told_by, defBody s__law_told_by, defScope s__law_told_by, [], []⟩
def e__law_newest : He.DefD := ⟨("_law_newest", none), "_law_newest", "_law_newest", defArgs s__law_newest, defBody s__law_newest, defScope s__law_newest, [], []⟩
def e_law : He.DefD := ⟨("law", none), "law", "law", defArgs s_law, defBody s_law, defScope s_law, [], []⟩
def fn : List He.DefD := [e_is_within, e_tellers_of, e_newest_signed, e__law_take, e__law_like, e__law_within, e__law_box, e_may_lie, e__law_pick, e__law_greatest, e__law_drawn_lot, e__law_may, e_newest_told, e__law_liars, e__law_history, e__law_told_by, e__law_newest, e_law]
def fa : List He.Fa := [.glo "is_within", .glo "tellers_of", .glo "newest_signed", .glo "_law_take", .glo "_law_like", .glo "_law_within", .glo "_law_box", .glo "may_lie", .glo "_law_pick", .glo "_law_greatest", .glo "_law_drawn_lot", .glo "_law_may", .glo "newest_told", .glo "_law_liars", .glo "_law_history", .glo "_law_told_by", .glo "_law_newest", .glo "law", .free "abs", .free "all", .free "any", .free "bool", .free "enumerate", .free "int", .free "isinstance", .free "len", .free "list", .free "max", .free "min", .free "range", .free "set", .free "sorted", .free "str", .free "tuple", .free "zip"]
abbrev R : PySem.W.OpenRow := PySem.W.OpenLaw.row PySem.Challenge.rw_nolieholds_k89_whole_never_newer_than_th
abbrev hk : PySem.W.Hook := He.hookD 4 fa fn
def ob (s : PySem.W.SharedT) : He.AlD := He.obsDG 4 fa fn (HandSHeadRun.getT s)
theorem ob_eq (s : PySem.W.SharedT) : ob s = hk.obs s.abs := He.obsDG_eq (HandSHeadRun.getT_eq s)
def loose : List PySem.Str := ["__name__", "is_within", "may_lie", "tellers_of", "newest_told", "newest_signed", "_law_take", "_law_pick", "_law_like", "_law_within", "_law_greatest", "_law_drawn_lot", "_law_liars", "_law_may", "_law_history", "_law_told_by", "_law_newest", "_law_box"]
theorem run (w : World) : HandSHeadRun.RunEq R (PySem.W.view R.prog [21]) hk ob 4000 loose w := by
  intro os
  kernel_rfl
def spLaw (K : PySem.W.Frag) : Sp := spD K 1 T_law.run
theorem facts {P : Program} {w : World} {K : PySem.W.Frag} {h : Heap} {mg : Str → Option Value} {f : Addr} (X : K.In h) (G : h.Ns mainGlobals mg) (hfa : mg ("law" : Str) = some (.ref f)) (c : He.SaysD fa fn K) :
    ∃ fd : FuncData, (∀ (s : Shared) (v : Value), BindsTo s fd ⟨[v], []⟩ [("script", v)]) ∧ ∀ base : Heap, K.In base → base.Ns mainGlobals mg → FnOk P w K mg base CX0 4 f fd ["script"] (spLaw K) := by
  have nb_abs : mg "abs" = none := He.free_ok X G (c.fact 18 (f := .free "abs") rfl)
  have nb_all : mg "all" = none := He.free_ok X G (c.fact 19 (f := .free "all") rfl)
  have nb_any : mg "any" = none := He.free_ok X G (c.fact 20 (f := .free "any") rfl)
  have nb_bool : mg "bool" = none := He.free_ok X G (c.fact 21 (f := .free "bool") rfl)
  have nb_enumerate : mg "enumerate" = none := He.free_ok X G (c.fact 22 (f := .free "enumerate") rfl)
  have nb_int : mg "int" = none := He.free_ok X G (c.fact 23 (f := .free "int") rfl)
  have nb_isinstance : mg "isinstance" = none := He.free_ok X G (c.fact 24 (f := .free "isinstance") rfl)
  have nb_len : mg "len" = none := He.free_ok X G (c.fact 25 (f := .free "len") rfl)
  have nb_list : mg "list" = none := He.free_ok X G (c.fact 26 (f := .free "list") rfl)
  have nb_max : mg "max" = none := He.free_ok X G (c.fact 27 (f := .free "max") rfl)
  have nb_min : mg "min" = none := He.free_ok X G (c.fact 28 (f := .free "min") rfl)
  have nb_range : mg "range" = none := He.free_ok X G (c.fact 29 (f := .free "range") rfl)
  have nb_set : mg "set" = none := He.free_ok X G (c.fact 30 (f := .free "set") rfl)
  have nb_sorted : mg "sorted" = none := He.free_ok X G (c.fact 31 (f := .free "sorted") rfl)
  have nb_str : mg "str" = none := He.free_ok X G (c.fact 32 (f := .free "str") rfl)
  have nb_tuple : mg "tuple" = none := He.free_ok X G (c.fact 33 (f := .free "tuple") rfl)
  have nb_zip : mg "zip" = none := He.free_ok X G (c.fact 34 (f := .free "zip") rfl)
  obtain ⟨fd_is_within, F_is_within⟩ := c.def_ 0 (d := e_is_within) rfl
  have A_is_within : FnA K mg "is_within" s_is_within := ⟨_, fd_is_within, fun_of F_is_within, He.glo_ok X G (c.fact 0 (f := .glo "is_within") rfl)⟩
  obtain ⟨fd_tellers_of, F_tellers_of⟩ := c.def_ 1 (d := e_tellers_of) rfl
  have A_tellers_of : FnA K mg "tellers_of" s_tellers_of := ⟨_, fd_tellers_of, fun_of F_tellers_of, He.glo_ok X G (c.fact 1 (f := .glo "tellers_of") rfl)⟩
  obtain ⟨fd_newest_signed, F_newest_signed⟩ := c.def_ 2 (d := e_newest_signed) rfl
  have A_newest_signed : FnA K mg "newest_signed" s_newest_signed := ⟨_, fd_newest_signed, fun_of F_newest_signed, He.glo_ok X G (c.fact 2 (f := .glo "newest_signed") rfl)⟩
  obtain ⟨fd__law_take, F__law_take⟩ := c.def_ 3 (d := e__law_take) rfl
  have A__law_take : FnA K mg "_law_take" s__law_take := ⟨_, fd__law_take, fun_of F__law_take, He.glo_ok X G (c.fact 3 (f := .glo "_law_take") rfl)⟩
  obtain ⟨fd__law_like, F__law_like⟩ := c.def_ 4 (d := e__law_like) rfl
  have A__law_like : FnA K mg "_law_like" s__law_like := ⟨_, fd__law_like, fun_of F__law_like, He.glo_ok X G (c.fact 4 (f := .glo "_law_like") rfl)⟩
  obtain ⟨fd__law_within, F__law_within⟩ := c.def_ 5 (d := e__law_within) rfl
  have A__law_within : FnA K mg "_law_within" s__law_within := ⟨_, fd__law_within, fun_of F__law_within, He.glo_ok X G (c.fact 5 (f := .glo "_law_within") rfl)⟩
  obtain ⟨fd__law_box, F__law_box⟩ := c.def_ 6 (d := e__law_box) rfl
  have A__law_box : FnA K mg "_law_box" s__law_box := ⟨_, fd__law_box, fun_of F__law_box, He.glo_ok X G (c.fact 6 (f := .glo "_law_box") rfl)⟩
  obtain ⟨fd_may_lie, F_may_lie⟩ := c.def_ 7 (d := e_may_lie) rfl
  have A_may_lie : FnA K mg "may_lie" s_may_lie := ⟨_, fd_may_lie, fun_of F_may_lie, He.glo_ok X G (c.fact 7 (f := .glo "may_lie") rfl)⟩
  obtain ⟨fd__law_pick, F__law_pick⟩ := c.def_ 8 (d := e__law_pick) rfl
  have A__law_pick : FnA K mg "_law_pick" s__law_pick := ⟨_, fd__law_pick, fun_of F__law_pick, He.glo_ok X G (c.fact 8 (f := .glo "_law_pick") rfl)⟩
  obtain ⟨fd__law_greatest, F__law_greatest⟩ := c.def_ 9 (d := e__law_greatest) rfl
  have A__law_greatest : FnA K mg "_law_greatest" s__law_greatest := ⟨_, fd__law_greatest, fun_of F__law_greatest, He.glo_ok X G (c.fact 9 (f := .glo "_law_greatest") rfl)⟩
  obtain ⟨fd__law_drawn_lot, F__law_drawn_lot⟩ := c.def_ 10 (d := e__law_drawn_lot) rfl
  have A__law_drawn_lot : FnA K mg "_law_drawn_lot" s__law_drawn_lot := ⟨_, fd__law_drawn_lot, fun_of F__law_drawn_lot, He.glo_ok X G (c.fact 10 (f := .glo "_law_drawn_lot") rfl)⟩
  obtain ⟨fd__law_may, F__law_may⟩ := c.def_ 11 (d := e__law_may) rfl
  have A__law_may : FnA K mg "_law_may" s__law_may := ⟨_, fd__law_may, fun_of F__law_may, He.glo_ok X G (c.fact 11 (f := .glo "_law_may") rfl)⟩
  obtain ⟨fd_newest_told, F_newest_told⟩ := c.def_ 12 (d := e_newest_told) rfl
  have A_newest_told : FnA K mg "newest_told" s_newest_told := ⟨_, fd_newest_told, fun_of F_newest_told, He.glo_ok X G (c.fact 12 (f := .glo "newest_told") rfl)⟩
  obtain ⟨fd__law_liars, F__law_liars⟩ := c.def_ 13 (d := e__law_liars) rfl
  have A__law_liars : FnA K mg "_law_liars" s__law_liars := ⟨_, fd__law_liars, fun_of F__law_liars, He.glo_ok X G (c.fact 13 (f := .glo "_law_liars") rfl)⟩
  obtain ⟨fd__law_history, F__law_history⟩ := c.def_ 14 (d := e__law_history) rfl
  have A__law_history : FnA K mg "_law_history" s__law_history := ⟨_, fd__law_history, fun_of F__law_history, He.glo_ok X G (c.fact 14 (f := .glo "_law_history") rfl)⟩
  obtain ⟨fd__law_told_by, F__law_told_by⟩ := c.def_ 15 (d := e__law_told_by) rfl
  have A__law_told_by : FnA K mg "_law_told_by" s__law_told_by := ⟨_, fd__law_told_by, fun_of F__law_told_by, He.glo_ok X G (c.fact 15 (f := .glo "_law_told_by") rfl)⟩
  obtain ⟨fd__law_newest, F__law_newest⟩ := c.def_ 16 (d := e__law_newest) rfl
  have A__law_newest : FnA K mg "_law_newest" s__law_newest := ⟨_, fd__law_newest, fun_of F__law_newest, He.glo_ok X G (c.fact 16 (f := .glo "_law_newest") rfl)⟩
  obtain ⟨fd_law, F_law⟩ := c.def_ 17 (d := e_law) rfl
  have el := hfa.symm.trans (He.glo_ok X G (c.fact 17 (f := .glo "law") rfl))
  cases el
  have b := FunD.bindsA (ps := ["script"]) F_law fun _ _ _ _ _ _ us hl => match us, hl with | [_], _ => rfl
  refine ⟨fd_law, fun s v => b s [v] rfl, fun base _ _ => ?_⟩
  have k_is_within : Cal P w K mg base "is_within" 1 ["one", "two"] T_is_within := c_is_within A_is_within nb_all
  have k_tellers_of : Cal P w K mg base "tellers_of" 1 ["told", "number"] T_tellers_of := c_tellers_of A_tellers_of nb_enumerate nb_tuple
  have k_newest_signed : Cal P w K mg base "newest_signed" 1 ["told"] T_newest_signed := c_newest_signed A_newest_signed nb_len nb_max
  have k__law_take : Cal P w K mg base "_law_take" 1 ["box", "many"] T__law_take := c__law_take A__law_take nb_int
  have k__law_like : Cal P w K mg base "_law_like" 1 ["told", "due"] T__law_like := c__law_like A__law_like nb_bool nb_int nb_isinstance nb_len nb_list nb_range nb_str nb_tuple nb_zip
  have k__law_within : Cal P w K mg base "_law_within" 1 ["one", "two"] T__law_within := c__law_within A__law_within
  have k__law_box : Cal P w K mg base "_law_box" 1 ["script", "k"] T__law_box := c__law_box A__law_box nb_abs nb_int nb_len
  have k_may_lie : Cal P w K mg base "may_lie" 2 ["liars", "lot"] T_may_lie := c_may_lie A_may_lie k_is_within nb_any
  have k__law_pick : Cal P w K mg base "_law_pick" 2 ["box", "some"] T__law_pick := c__law_pick A__law_pick k__law_take nb_len
  have k__law_greatest : Cal P w K mg base "_law_greatest" 2 ["lots"] T__law_greatest := c__law_greatest A__law_greatest k__law_within nb_set nb_sorted nb_tuple
  have k__law_drawn_lot : Cal P w K mg base "_law_drawn_lot" 2 ["box", "houses", "part"] T__law_drawn_lot := c__law_drawn_lot A__law_drawn_lot k__law_take nb_tuple
  have k__law_may : Cal P w K mg base "_law_may" 2 ["liars", "lot"] T__law_may := c__law_may A__law_may k__law_within
  have k_newest_told : Cal P w K mg base "newest_told" 3 ["liars", "told"] T_newest_told := c_newest_told A_newest_told k_may_lie k_tellers_of nb_len nb_max
  have k__law_liars : Cal P w K mg base "_law_liars" 3 ["box", "many"] T__law_liars := c__law_liars A__law_liars k__law_greatest k__law_take k__law_drawn_lot k__law_pick nb_len nb_range nb_tuple
  have k__law_history : Cal P w K mg base "_law_history" 3 ["box", "many", "liars"] T__law_history := c__law_history A__law_history k__law_take k__law_drawn_lot k__law_pick nb_range nb_tuple
  have k__law_told_by : Cal P w K mg base "_law_told_by" 3 ["box", "history", "signed"] T__law_told_by := c__law_told_by A__law_told_by k__law_take k__law_pick nb_len nb_min nb_range nb_tuple
  have k__law_newest : Cal P w K mg base "_law_newest" 3 ["liars", "told"] T__law_newest := c__law_newest A__law_newest k__law_may nb_len nb_max nb_range nb_tuple
  exact (c_law (P := P) (w := w) (base := base) ⟨_, fd_law, fun_of F_law, hfa⟩ k__law_box k__law_liars k_newest_told k__law_like k__law_take k__law_history k_newest_signed k__law_told_by k__law_newest nb_enumerate nb_len nb_list nb_max nb_min nb_range nb_tuple).ok
end Dl.W_k89
open PySem PySem.W PySem.Calls PyProof.Rows
theorem PySem.Challenge.cw_nolieholds_k89_whole_never_newer_than_th_holds : PySem.Challenge.rw_nolieholds_k89_whole_never_newer_than_th.Holds := by
  w_on; o_law
  refine HandSHeadRun.head_any (r := OpenLaw.row PySem.Challenge.rw_nolieholds_k89_whole_never_newer_than_th) (q := view (OpenLaw.row PySem.Challenge.rw_nolieholds_k89_whole_never_newer_than_th).prog [21]) (H := Dl.W_k89.hk) (ob := Dl.W_k89.ob) (M := 4000) (loose := Dl.W_k89.loose) (d := HandSHeadRun.topDef (OpenLaw.row PySem.Challenge.rw_nolieholds_k89_whole_never_newer_than_th).prog 21) (kwd := []) Dl.W_k89.ob_eq
    (by kernel_rfl) (fun s => by kernel_rfl) Dl.W_k89.run (by kernel_rfl) (by kernel_rfl) (by kernel_rfl) (by rfl) (by first | assumption | decide +kernel) (by decide +kernel) ⟨rfl, rfl, rfl, rfl, rfl, by decide +kernel⟩ ?hw ?hc
  case hw => w_witness2
  case hc =>
    refine L2.walk_ofE (l := PySem.Challenge.rw_nolieholds_k89_whole_never_newer_than_th) (n := 63) (k := 4) (x := "script") (CX := L2.CX0) rfl (by decide) (by kernel_rfl) ⟨rfl, by decide, by decide⟩ ?F (fun _ _ _ _ z => z)
    intro w mg fa h Y G hmg0
    obtain ⟨K, KX, c⟩ := Y
    have hmg : mg ("law" : PySem.Str) = some (.ref fa) := by
      have e : (HandSHeadRun.topDef (OpenLaw.row PySem.Challenge.rw_nolieholds_k89_whole_never_newer_than_th).prog 21).name = ("law" : PySem.Str) := by kernel_rfl
      rw [← e]
      exact hmg0
    obtain ⟨fd, hb, hF⟩ := Dl.W_k89.facts (P := (PySem.Challenge.rw_nolieholds_k89_whole_never_newer_than_th).prog) (w := w) KX G hmg c
    refine ⟨K, fd, Dl.W_k89.spLaw K, KX, hb, fun H a ns hl _ hS => ?_, hF⟩
    exact Dl.start_law hS ⟨ns, rfl, rfl, fun v F' H' g _ _ _ r => by cases r; rfl⟩

