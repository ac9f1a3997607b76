import PyProof.Rows.All
import Wide.All
import OpenK.AllK
import Wide.FinOn
import HandS.ForMost
import HandS.ForExc
import HandS.Lambda
import HandS.IsInst
import HandS.Style
import HandS.TupAny
import HandS.SortInts
import HandS.Codes
import HandS.Conv
import HandS.ExcCtx
import HandS.ExcInit
import HandS.Small
import PyProof.StrOps2
import KE.GoesEnum
import KE.GoesZip
import KE.GoesMore
import HandS.ExcIs
import HandS.ExcField
import KE.KExcIs
import PyProof.StrLawsIn
import HandS.Iter
import HandS.Rev
import HandS.Strs
import HandS.SortOrd
import PyProof.Rows.SortShellAny
import PyProof.ListStr
import PyProof.Rows.StrMeet
import HandS.Set
import HandS.SetFor
import PyProof.StrWalks
import HandS.SetBool
import HandS.SetKeys
import HandS.ReplaceList
import HandS.ReplaceLit
import HandS.Hot
import HandS.HotCalls
import HandS.StrMore
import HandS.TupMul
import HandS.Dict
import KE.KDictKeyed
import KE.KDictLaw
import HandS.TupLen
import KE.KTupSum
import PyProof.SeqI3
import HandS.CallLocal
import KE.KStrOpen
import KE.KNestM
import HandS.EndTab
import PySem.Challenge.RW_wheelwords_k79_whole_doubles_and_sums
set_option Elab.async false
set_option linter.all false
set_option maxRecDepth 100000
set_option maxHeartbeats 4000000
/-! data semantics over the hand layer: values without a heap (D), what is owned, what is data -/
namespace DL
open PySem PySem.Spec PyProof.Rows L2

inductive D where
  | non | bl (b : Bool) | int (i : Int) | str (s : List Nat) | vr (v : V)
  | tup (ds : List D) | lst (ds : List D) | dct (ks : List Key) (ds : List D)

abbrev zs (s : List Nat) : Str := ⟨s.toArray⟩

mutual
def rep (K : PySem.W.Frag) (G : Hp) : D → V → Prop
  | .non, v => v = .non
  | .bl b, v => v = .bl b
  | .int i, v => v = .int i
  | .str s, v => v = .str (zs s)
  | .vr u, v => v = u
  | .tup ds, v => ∃ a xs, v = .ref a ∧ SqT K G a xs ∧ reps K G ds xs
  | .lst ds, v => ∃ a xs, v = .ref a ∧ G a = some (.lst xs) ∧ reps K G ds xs
  | .dct ks ds, v => ∃ a kvs, v = .ref a ∧ G a = some (.dK kvs) ∧ kvs.map (·.1) = ks ∧ reps K G ds (kvs.map (·.2))
def reps (K : PySem.W.Frag) (G : Hp) : List D → List V → Prop
  | [], xs => xs = []
  | d :: ds, xs => ∃ x r, xs = x :: r ∧ rep K G d x ∧ reps K G ds r
end

section
variable {K : PySem.W.Frag} {G G' H H' : Hp}
theorem Same.sqT (e : Same G G') {a : Addr} {xs : List V} (h : SqT K G a xs) : SqT K G' a xs := by
  rcases h with (h | ⟨o, h⟩) | h
  · exact .inl (.inl (e _ _ h))
  · exact .inl (.inr ⟨o, e _ _ h⟩)
  · exact .inr h
mutual
theorem rep_mono (e : Same G G') : ∀ (d : D) (v : V), rep K G d v → rep K G' d v
  | .non, v, h => h
  | .bl b, v, h => h
  | .int i, v, h => h
  | .str s, v, h => h
  | .vr u, v, h => h
  | .tup ds, v, h => by
    obtain ⟨a, xs, r, s, q⟩ := h
    exact ⟨a, xs, r, Same.sqT e s, reps_mono e ds xs q⟩
  | .lst ds, v, h => by
    obtain ⟨a, xs, r, s, q⟩ := h
    exact ⟨a, xs, r, e _ _ s, reps_mono e ds xs q⟩
  | .dct ks ds, v, h => by
    obtain ⟨a, kvs, r, s, k, q⟩ := h
    exact ⟨a, kvs, r, e _ _ s, k, reps_mono e ds _ q⟩
theorem reps_mono (e : Same G G') : ∀ (ds : List D) (xs : List V), reps K G ds xs → reps K G' ds xs
  | [], xs, h => h
  | d :: ds, xs, h => by
    obtain ⟨x, r, q, h1, h2⟩ := h
    exact ⟨x, r, q, rep_mono e d x h1, reps_mono e ds r h2⟩
end
theorem reps.nil : reps K G [] [] := by unfold reps; rfl
theorem reps.cons {d : D} {ds : List D} {x : V} {xs : List V} (h : rep K G d x) (t : reps K G ds xs) : reps K G (d :: ds) (x :: xs) := by
  unfold reps; exact ⟨x, xs, rfl, h, t⟩
theorem reps.uncons {d : D} {ds : List D} {xs : List V} (h : reps K G (d :: ds) xs) : ∃ x r, xs = x :: r ∧ rep K G d x ∧ reps K G ds r := by
  unfold reps at h; exact h
theorem reps.nil_eq {xs : List V} (h : reps K G [] xs) : xs = [] := by unfold reps at h; exact h
theorem reps.length : ∀ {ds : List D} {xs : List V}, reps K G ds xs → xs.length = ds.length
  | [], xs, h => by rw [h.nil_eq]; rfl
  | d :: ds, xs, h => by
    obtain ⟨x, r, rfl, _, t⟩ := h.uncons
    rw [List.length_cons, List.length_cons, t.length]
theorem reps.get : ∀ {ds : List D} {xs : List V} {i : Nat} {d : D}, reps K G ds xs → ds[i]? = some d → ∃ x, xs[i]? = some x ∧ rep K G d x
  | [], _, _, _, _, e => by simp at e
  | d :: ds, xs, 0, d', h, e => by
    obtain ⟨x, r, rfl, h1, _⟩ := h.uncons
    simp at e; subst e
    exact ⟨x, rfl, h1⟩
  | d :: ds, xs, i + 1, d', h, e => by
    obtain ⟨x, r, rfl, _, t⟩ := h.uncons
    obtain ⟨y, h1, h2⟩ := t.get (i := i) (by simpa using e)
    exact ⟨y, by simpa using h1, h2⟩
theorem reps.append : ∀ {ds es : List D} {xs ys : List V}, reps K G ds xs → reps K G es ys → reps K G (ds ++ es) (xs ++ ys)
  | [], es, xs, ys, h, t => by rw [h.nil_eq]; exact t
  | d :: ds, es, xs, ys, h, t => by
    obtain ⟨x, r, rfl, h1, h2⟩ := h.uncons
    exact .cons h1 (h2.append t)
theorem reps.take : ∀ {ds : List D} {xs : List V} (n : Nat), reps K G ds xs → reps K G (ds.take n) (xs.take n)
  | _, _, 0, _ => by simpa using reps.nil
  | [], xs, n + 1, h => by rw [h.nil_eq]; simpa using reps.nil
  | d :: ds, xs, n + 1, h => by
    obtain ⟨x, r, rfl, h1, h2⟩ := h.uncons
    simpa using reps.cons h1 (h2.take n)
theorem reps.drop : ∀ {ds : List D} {xs : List V} (n : Nat), reps K G ds xs → reps K G (ds.drop n) (xs.drop n)
  | _, _, 0, h => by simpa using h
  | [], xs, n + 1, h => by rw [h.nil_eq]; simpa using reps.nil
  | d :: ds, xs, n + 1, h => by
    obtain ⟨x, r, rfl, h1, h2⟩ := h.uncons
    simpa using h2.drop n
theorem reps.set : ∀ {ds : List D} {xs : List V} {d : D} {x : V} (n : Nat), reps K G ds xs → rep K G d x → reps K G (ds.set n d) (xs.set n x)
  | [], xs, _, _, n, h, _ => by rw [h.nil_eq]; simpa using reps.nil
  | d :: ds, xs, _, _, 0, h, q => by
    obtain ⟨x, r, rfl, h1, h2⟩ := h.uncons
    simpa using reps.cons q h2
  | d :: ds, xs, _, _, n + 1, h, q => by
    obtain ⟨x, r, rfl, h1, h2⟩ := h.uncons
    simpa using reps.cons h1 (h2.set n q)
theorem reps.rev {ds : List D} {xs : List V} (h : reps K G ds xs) : reps K G ds.reverse xs.reverse := by
  induction ds generalizing xs with
  | nil => rw [h.nil_eq]; simpa using reps.nil
  | cons d ds ih =>
    obtain ⟨x, r, rfl, h1, h2⟩ := h.uncons
    simpa using (ih h2).append (reps.cons h1 reps.nil)
theorem reps.flat {n : Nat} {ds : List D} {xs : List V} (h : reps K G ds xs) : reps K G (List.replicate n ds).flatten (List.replicate n xs).flatten := by
  induction n with
  | zero => simpa using reps.nil
  | succ n ih => simpa [List.replicate_succ] using h.append ih
/-- ints, bools, texts: values that hang on no heap -/
def scal : D → Bool
  | .non | .bl _ | .int _ | .str _ | .vr _ => true
  | _ => false
theorem rep_scal {d : D} {v : V} (h : rep K G d v) (s : scal d = true) : rep K G' d v := by
  cases d <;> first | exact h | (simp [scal] at s)
theorem reps_map {α : Type} {f : α → D} {g : α → V} (h : ∀ a, rep K G (f a) (g a)) : ∀ l : List α, reps K G (l.map f) (l.map g)
  | [] => reps.nil
  | a :: l => .cons (h a) (reps_map h l)
theorem reps_ints {ns : List Int} {xs : List V} (h : reps K G (ns.map D.int) xs) : xs = ns.map V.int := by
  induction ns generalizing xs with
  | nil => exact h.nil_eq
  | cons n ns ih =>
    obtain ⟨x, r, rfl, h1, h2⟩ := h.uncons
    rw [show x = .int n from h1, ih h2]; rfl
theorem reps_bls {ns : List Bool} {xs : List V} (h : reps K G (ns.map D.bl) xs) : xs = ns.map V.bl := by
  induction ns generalizing xs with
  | nil => exact h.nil_eq
  | cons n ns ih =>
    obtain ⟨x, r, rfl, h1, h2⟩ := h.uncons
    rw [show x = .bl n from h1, ih h2]; rfl
theorem reps_strs {ns : List (List Nat)} {xs : List V} (h : reps K G (ns.map D.str) xs) : xs = (ns.map zs).map V.str := by
  induction ns generalizing xs with
  | nil => exact h.nil_eq
  | cons n ns ih =>
    obtain ⟨x, r, rfl, h1, h2⟩ := h.uncons
    rw [show x = .str (zs n) from h1, ih h2]; rfl
end

/-! ### the world: the hand (a list that calls change), the tables of code objects, the classes' addresses -/
structure Wd where
  K : PySem.W.Frag
  hand : Option (Addr × Addr)
  T : List (Addr × Str)
  cls : String → Addr
def HandAt (H : Hp) (ha hc : Addr) : Prop := ha ≠ hc ∧ ∃ (cells : List Int) (i x y z : Int), H ha = some (.lst [.ref hc, .int i, .int x, .int y, .int z]) ∧ H hc = some (.lst (cells.map V.int)) ∧ 0 ≤ i
def Wd.mem (W : Wd) (a : Addr) : Prop := (∃ h, W.hand = some h ∧ (a = h.1 ∨ a = h.2)) ∨ ∃ p ∈ W.T, a = p.1
structure WOk (W : Wd) (H : Hp) : Prop where
  hand : ∀ h, W.hand = some h → HandAt H h.1 h.2
  tabs : LamX.Tabs W.T H
structure GOk (W : Wd) (G H : Hp) : Prop where
  le : Same G H
  w : WOk W H
  nm : ∀ a, W.mem a → G a = none
  tb : ∀ a ps, G a ≠ some (.tbl ps)
/-- nothing of ours stands at a: nothing at all, or a table that is not told -/
def fr (W : Wd) (H : Hp) (a : Addr) : Prop := ¬ W.mem a ∧ (H a = none ∨ ∃ ps, H a = some (.tbl ps))
structure Gst (W : Wd) (G H G' H' : Hp) : Prop where
  gok : GOk W G' H'
  le : Same G G'
  new : ∀ a o, G' a = some o → G a = some o ∨ fr W H a
  keep : ∀ a o, H a = some o → (∀ ps, o ≠ .tbl ps) → ¬ W.mem a → H' a = some o

section
variable {W : Wd} {G G' G1 G2 H H' H1 H2 : Hp}
theorem lst_tbl {xs : List V} (ps : Array Value) : HO.lst xs ≠ .tbl ps := fun z => by cases z
theorem WOk.some (w : WOk W H) {a : Addr} (m : W.mem a) : ∃ o, H a = some o := by
  rcases m with ⟨h, e, q⟩ | ⟨p, hp, q⟩
  · obtain ⟨_, cells, i, x, y, z, h1, h2, _⟩ := w.hand h e
    rcases q with q | q
    · rw [q]; exact ⟨_, h1⟩
    · rw [q]; exact ⟨_, h2⟩
  · obtain ⟨ps, h1, _⟩ := w.tabs p hp
    rw [q]; exact ⟨_, h1⟩
theorem WOk.nomem (w : WOk W H) {a : Addr} (e : H a = none) : ¬ W.mem a := fun m => by
  obtain ⟨o, q⟩ := w.some m
  rw [e] at q; cases q
theorem WOk.fr (w : WOk W H) {a : Addr} (e : H a = none) : fr W H a := ⟨w.nomem e, .inl e⟩
theorem fr.not {a : Addr} {o : HO} (f : fr W H a) (e : H a = Option.some o) (n : ∀ ps, o ≠ .tbl ps) : False := by
  rcases f.2 with z | ⟨ps, z⟩
  · rw [e] at z; cases z
  · rw [e] at z; exact n ps (Option.some.inj z)
theorem WOk.ext (w : WOk W H) (e : Same H H') : WOk W H' :=
  ⟨fun h q => by
    obtain ⟨n, cells, i, x, y, z, h1, h2, h3⟩ := w.hand h q
    exact ⟨n, cells, i, x, y, z, e _ _ h1, e _ _ h2, h3⟩, w.tabs.ext e⟩
theorem Gst.refl (g : GOk W G H) : Gst W G H G H := ⟨g, Same.refl _, fun _ _ h => .inl h, fun _ _ h _ _ => h⟩
theorem Gst.fr (s : Gst W G H G' H') {a : Addr} (e : fr W H' a) : fr W H a := by
  refine ⟨e.1, ?_⟩
  cases q : H a with
  | none => exact .inl rfl
  | some o =>
    by_cases ht : ∃ ps, o = .tbl ps
    · obtain ⟨ps, ht⟩ := ht
      exact .inr ⟨ps, by rw [ht]⟩
    · exact (e.not (s.keep a o q (fun ps z => ht ⟨ps, z⟩) e.1) (fun ps z => ht ⟨ps, z⟩)).elim
theorem Gst.frn (s : Gst W G H G' H') {a : Addr} (e : H' a = none) : DL.fr W H a := s.fr (s.gok.w.fr e)
theorem Gst.trans (s : Gst W G H G1 H1) (t : Gst W G1 H1 G2 H2) : Gst W G H G2 H2 where
  gok := t.gok
  le := s.le.trans t.le
  new := fun a o h => by
    rcases t.new a o h with q | q
    · exact s.new a o q
    · exact .inr (s.fr q)
  keep := fun a o h n m => t.keep a o (s.keep a o h n m) n m
theorem same_new {p : Addr} {o : HO} (h : H p = none) : Same H (upd H p o) := fun b x e => by
  rw [upd_ne (ne_of_none e h)]; exact e
theorem GOk.nn (g : GOk W G H) {p : Addr} (h : H p = none) : G p = none := by
  cases q : G p with
  | none => rfl
  | some u => rw [g.le _ _ q] at h; cases h
/-- a new object, data from now on -/
theorem Gst.alloc (g : GOk W G H) {p : Addr} (o : HO) (h : H p = none) (no : ∀ ps, o ≠ .tbl ps := by intro ps z; cases z) : Gst W G H (upd G p o) (upd H p o) := by
  have hg : G p = none := g.nn h
  have hne : ∀ a, W.mem a → a ≠ p := fun a m q => by subst q; exact g.w.nomem h m
  refine ⟨⟨fun b u e => ?_, g.w.ext (same_new h), fun a m => ?_, fun a ps e => ?_⟩, same_new hg, fun a u e => ?_, fun a u e _ _ => same_new h a u e⟩
  · by_cases hb : b = p
    · subst hb; rw [upd_same] at e ⊢; exact e
    · rw [upd_ne hb] at e ⊢; exact g.le _ _ e
  · rw [upd_ne (hne a m)]; exact g.nm a m
  · by_cases hb : a = p
    · subst hb; rw [upd_same] at e; exact no ps (Option.some.inj e)
    · rw [upd_ne hb] at e; exact g.tb a ps e
  · by_cases hb : a = p
    · subst hb; exact .inr (g.w.fr h)
    · rw [upd_ne hb] at e; exact .inl e
/-- a new object that is not data (it is owned, or forgotten) -/
theorem Gst.hid (g : GOk W G H) {p : Addr} (o : HO) (h : H p = none) : Gst W G H G (upd H p o) :=
  ⟨⟨fun b u e => same_new h b u (g.le _ _ e), g.w.ext (same_new h), g.nm, g.tb⟩, Same.refl _, fun a u e => .inl e, fun a u e _ _ => same_new h a u e⟩
/-- an untracked-by-G object becomes data -/
theorem GOk.show (g : GOk W G H) {p : Addr} {o : HO} (h : H p = some o) (hg : G p = none) (m : ¬ W.mem p) (no : ∀ ps, o ≠ .tbl ps := by intro ps z; cases z) : GOk W (upd G p o) H :=
  ⟨fun b u e => by
    by_cases hb : b = p
    · subst hb; rw [upd_same] at e; rw [h]; exact e
    · rw [upd_ne hb] at e; exact g.le _ _ e, g.w, fun a ma => by
    have : a ≠ p := fun q => by subst q; exact m ma
    rw [upd_ne this]; exact g.nm a ma, fun a ps e => by
    by_cases hb : a = p
    · subst hb; rw [upd_same] at e; exact no ps (Option.some.inj e)
    · rw [upd_ne hb] at e; exact g.tb a ps e⟩
/-- the world stands where a list that is no part of it is changed -/
theorem WOk.chg (w : WOk W H) {p : Addr} {xs ys : List V} (m : ¬ W.mem p) (hp : H p = Option.some (.lst xs)) : WOk W (upd H p (.lst ys)) := by
  refine ⟨fun h q => ?_, fun q hq => ?_⟩
  · obtain ⟨n, cells, a, x, y, z, g1, g2, g3⟩ := w.hand h q
    refine ⟨n, cells, a, x, y, z, ?_, ?_, g3⟩
    · rw [upd_ne (fun z => m (.inl ⟨h, q, .inl z.symm⟩))]; exact g1
    · rw [upd_ne (fun z => m (.inl ⟨h, q, .inr z.symm⟩))]; exact g2
  · obtain ⟨ps, g1, g2, g3⟩ := w.tabs q hq
    refine ⟨ps, ?_, g2, fun pos cv hc => ?_⟩
    · rw [upd_ne (fun z => m (.inr ⟨q, hq, z.symm⟩))]; exact g1
    · obtain ⟨c, k1, k2⟩ := g3 pos cv hc
      refine ⟨c, k1, ?_⟩
      rw [upd_ne (fun z => ?_)]; exact k2
      rw [z, hp] at k2
      unfold LamX.CodeO at k2
      cases k2
end

/-! ### slots: nothing, data, a list that the frame alone holds -/
inductive Sl where
  | non | dt (d : D) | ow (ds : List D) | od (ks : List Key) (ds : List D)
abbrev Env1 := List Sl
structure RelS (W : Wd) (G0 H0 : Hp) (env : List Sl) (σ : L2.St) (G H : Hp) : Prop where
  w0 : WOk W H0
  st : Gst W G0 H0 G H
  len : σ.length = env.length
  dt : ∀ (i : Nat) d, env[i]? = some (.dt d) → ∃ v, σ[i]? = some (some v) ∧ rep W.K G d v
  ow : ∀ (i : Nat) ds, env[i]? = some (.ow ds) → ∃ p xs, σ[i]? = some (some (.ref p)) ∧ H p = some (.lst xs) ∧ G p = none ∧ fr W H0 p ∧ reps W.K G ds xs
  dj : ∀ (i j : Nat) ds es p, i ≠ j → env[i]? = some (.ow ds) → env[j]? = some (.ow es) → σ[i]? = some (some (.ref p)) → σ[j]? ≠ some (some (.ref p))
  od : ∀ (i : Nat) ks ds, env[i]? = some (.od ks ds) → ∃ p kvs, σ[i]? = some (some (.ref p)) ∧ H p = some (.dK kvs) ∧ G p = none ∧ fr W H0 p ∧ kvs.map (·.1) = ks ∧ reps W.K G ds (kvs.map (·.2))
  dd : ∀ (i j : Nat) ks ds ks' ds' p, i ≠ j → env[i]? = some (.od ks ds) → env[j]? = some (.od ks' ds') → σ[i]? = some (some (.ref p)) → σ[j]? ≠ some (some (.ref p))

theorem dk_tbl {kvs : List (Key × V)} (ps : Array Value) : HO.dK kvs ≠ .tbl ps := fun z => by cases z
section
variable {W : Wd} {G0 H0 G G' H H' : Hp} {env : List Sl} {σ : L2.St}
theorem RelS.step (r : RelS W G0 H0 env σ G H) (s : Gst W G H G' H') : RelS W G0 H0 env σ G' H' where
  w0 := r.w0
  st := r.st.trans s
  len := r.len
  dt := fun i d e => by
    obtain ⟨v, h1, h2⟩ := r.dt i d e
    exact ⟨v, h1, rep_mono s.le d v h2⟩
  ow := fun i ds e => by
    obtain ⟨p, xs, h1, h2, h3, h4, h5⟩ := r.ow i ds e
    refine ⟨p, xs, h1, s.keep p _ h2 lst_tbl h4.1, ?_, h4, reps_mono s.le ds xs h5⟩
    cases q : G' p with
    | none => rfl
    | some o =>
      rcases s.new p o q with z | z
      · rw [h3] at z; cases z
      · exact (z.not h2 lst_tbl).elim
  dj := r.dj
  od := fun i ks ds e => by
    obtain ⟨p, kvs, h1, h2, h3, h4, h5, h6⟩ := r.od i ks ds e
    refine ⟨p, kvs, h1, s.keep p _ h2 dk_tbl h4.1, ?_, h4, h5, reps_mono s.le ds _ h6⟩
    cases q : G' p with
    | none => rfl
    | some o =>
      rcases s.new p o q with z | z
      · rw [h3] at z; cases z
      · exact (z.not h2 dk_tbl).elim
  dd := r.dd
theorem RelS.gok (r : RelS W G0 H0 env σ G H) : GOk W G H := r.st.gok
theorem RelS.wok (r : RelS W G0 H0 env σ G H) : WOk W H := r.st.gok.w
theorem RelS.set_dt (r : RelS W G0 H0 env σ G H) {i : Nat} {d : D} {v : V} (h : rep W.K G d v) : RelS W G0 H0 (env.set i (.dt d)) (σ.set i (some v)) G H where
  w0 := r.w0
  st := r.st
  len := by rw [List.length_set, List.length_set]; exact r.len
  dt := fun j d' e => by
    by_cases hj : i = j
    · subst hj
      have hl : i < env.length := by
        have := (List.getElem?_eq_some_iff.mp e).1
        rwa [List.length_set] at this
      rw [List.getElem?_set_self hl] at e
      cases e
      exact ⟨v, List.getElem?_set_self (by rw [r.len]; exact hl), h⟩
    · rw [List.getElem?_set_ne hj] at e ⊢
      exact r.dt j d' e
  ow := fun j ds e => by
    by_cases hj : i = j
    · subst hj
      have hl : i < env.length := by
        have := (List.getElem?_eq_some_iff.mp e).1
        rwa [List.length_set] at this
      rw [List.getElem?_set_self hl] at e
      cases e
    · rw [List.getElem?_set_ne hj] at e ⊢
      exact r.ow j ds e
  dj := fun j k ds es p n e1 e2 e3 => by
    have hj : i ≠ j := fun hj => by
      subst hj
      have hl : i < env.length := by
        have := (List.getElem?_eq_some_iff.mp e1).1
        rwa [List.length_set] at this
      rw [List.getElem?_set_self hl] at e1
      cases e1
    have hk : i ≠ k := fun hk => by
      subst hk
      have hl : i < env.length := by
        have := (List.getElem?_eq_some_iff.mp e2).1
        rwa [List.length_set] at this
      rw [List.getElem?_set_self hl] at e2
      cases e2
    rw [List.getElem?_set_ne hj] at e1 e3
    rw [List.getElem?_set_ne hk] at e2 ⊢
    exact r.dj j k ds es p n e1 e2 e3
  od := fun j ks ds e => by
    by_cases hj : i = j
    · subst hj
      have hl : i < env.length := by
        have := (List.getElem?_eq_some_iff.mp e).1
        rwa [List.length_set] at this
      rw [List.getElem?_set_self hl] at e
      cases e
    · rw [List.getElem?_set_ne hj] at e ⊢
      exact r.od j ks ds e
  dd := fun j k ks ds ks' ds' p n e1 e2 e3 => by
    have hj : i ≠ j := fun hj => by
      subst hj
      have hl : i < env.length := by
        have := (List.getElem?_eq_some_iff.mp e1).1
        rwa [List.length_set] at this
      rw [List.getElem?_set_self hl] at e1
      cases e1
    have hk : i ≠ k := fun hk => by
      subst hk
      have hl : i < env.length := by
        have := (List.getElem?_eq_some_iff.mp e2).1
        rwa [List.length_set] at this
      rw [List.getElem?_set_self hl] at e2
      cases e2
    rw [List.getElem?_set_ne hj] at e1 e3
    rw [List.getElem?_set_ne hk] at e2 ⊢
    exact r.dd j k ks ds ks' ds' p n e1 e2 e3
theorem RelS.set_non (r : RelS W G0 H0 env σ G H) {i : Nat} {v : Option V} : RelS W G0 H0 (env.set i .non) (σ.set i v) G H where
  w0 := r.w0
  st := r.st
  len := by rw [List.length_set, List.length_set]; exact r.len
  dt := fun j d' e => by
    by_cases hj : i = j
    · subst hj
      have hl : i < env.length := by
        have := (List.getElem?_eq_some_iff.mp e).1
        rwa [List.length_set] at this
      rw [List.getElem?_set_self hl] at e
      cases e
    · rw [List.getElem?_set_ne hj] at e ⊢
      exact r.dt j d' e
  ow := fun j ds e => by
    by_cases hj : i = j
    · subst hj
      have hl : i < env.length := by
        have := (List.getElem?_eq_some_iff.mp e).1
        rwa [List.length_set] at this
      rw [List.getElem?_set_self hl] at e
      cases e
    · rw [List.getElem?_set_ne hj] at e ⊢
      exact r.ow j ds e
  dj := fun j k ds es p n e1 e2 e3 => by
    have hj : i ≠ j := fun hj => by
      subst hj
      have hl : i < env.length := by
        have := (List.getElem?_eq_some_iff.mp e1).1
        rwa [List.length_set] at this
      rw [List.getElem?_set_self hl] at e1
      cases e1
    have hk : i ≠ k := fun hk => by
      subst hk
      have hl : i < env.length := by
        have := (List.getElem?_eq_some_iff.mp e2).1
        rwa [List.length_set] at this
      rw [List.getElem?_set_self hl] at e2
      cases e2
    rw [List.getElem?_set_ne hj] at e1 e3
    rw [List.getElem?_set_ne hk] at e2 ⊢
    exact r.dj j k ds es p n e1 e2 e3
  od := fun j ks ds e => by
    by_cases hj : i = j
    · subst hj
      have hl : i < env.length := by
        have := (List.getElem?_eq_some_iff.mp e).1
        rwa [List.length_set] at this
      rw [List.getElem?_set_self hl] at e
      cases e
    · rw [List.getElem?_set_ne hj] at e ⊢
      exact r.od j ks ds e
  dd := fun j k ks ds ks' ds' p n e1 e2 e3 => by
    have hj : i ≠ j := fun hj => by
      subst hj
      have hl : i < env.length := by
        have := (List.getElem?_eq_some_iff.mp e1).1
        rwa [List.length_set] at this
      rw [List.getElem?_set_self hl] at e1
      cases e1
    have hk : i ≠ k := fun hk => by
      subst hk
      have hl : i < env.length := by
        have := (List.getElem?_eq_some_iff.mp e2).1
        rwa [List.length_set] at this
      rw [List.getElem?_set_self hl] at e2
      cases e2
    rw [List.getElem?_set_ne hj] at e1 e3
    rw [List.getElem?_set_ne hk] at e2 ⊢
    exact r.dd j k ks ds ks' ds' p n e1 e2 e3
/-- a list that none of the slots holds goes into a slot -/
theorem RelS.set_ow (r : RelS W G0 H0 env σ G H) {i : Nat} {ds : List D} {p : Addr} {xs : List V} (h : H p = some (.lst xs)) (hg : G p = none) (h0 : fr W H0 p) (q : reps W.K G ds xs)
    (nw : ∀ (j : Nat) es, j ≠ i → env[j]? = some (.ow es) → σ[j]? ≠ some (some (.ref p))) : RelS W G0 H0 (env.set i (.ow ds)) (σ.set i (some (.ref p))) G H where
  w0 := r.w0
  st := r.st
  len := by rw [List.length_set, List.length_set]; exact r.len
  dt := fun j d' e => by
    by_cases hj : i = j
    · subst hj
      have hl : i < env.length := by
        have := (List.getElem?_eq_some_iff.mp e).1
        rwa [List.length_set] at this
      rw [List.getElem?_set_self hl] at e
      cases e
    · rw [List.getElem?_set_ne hj] at e ⊢
      exact r.dt j d' e
  ow := fun j es e => by
    by_cases hj : i = j
    · subst hj
      have hl : i < env.length := by
        have := (List.getElem?_eq_some_iff.mp e).1
        rwa [List.length_set] at this
      rw [List.getElem?_set_self hl] at e
      cases e
      exact ⟨p, xs, List.getElem?_set_self (by rw [r.len]; exact hl), h, hg, h0, q⟩
    · rw [List.getElem?_set_ne hj] at e ⊢
      exact r.ow j es e
  dj := fun j k es fs p' n e1 e2 e3 => by
    by_cases hj : i = j
    · subst hj
      have hk : i ≠ k := n
      have hl : i < env.length := by
        have := (List.getElem?_eq_some_iff.mp e1).1
        rwa [List.length_set] at this
      rw [List.getElem?_set_self (by rw [r.len]; exact hl)] at e3
      cases e3
      rw [List.getElem?_set_ne hk] at e2 ⊢
      exact nw k fs (Ne.symm hk) e2
    · rw [List.getElem?_set_ne hj] at e1 e3
      by_cases hk : i = k
      · subst hk
        have hl : i < env.length := by
          have := (List.getElem?_eq_some_iff.mp e2).1
          rwa [List.length_set] at this
        rw [List.getElem?_set_self (by rw [r.len]; exact hl)]
        intro z
        cases z
        exact nw j es (Ne.symm hj) e1 e3
      · rw [List.getElem?_set_ne hk] at e2 ⊢
        exact r.dj j k es fs p' n e1 e2 e3
  od := fun j ks ds e => by
    by_cases hj : i = j
    · subst hj
      have hl : i < env.length := by
        have := (List.getElem?_eq_some_iff.mp e).1
        rwa [List.length_set] at this
      rw [List.getElem?_set_self hl] at e
      cases e
    · rw [List.getElem?_set_ne hj] at e ⊢
      exact r.od j ks ds e
  dd := fun j k ks ds ks' ds' p n e1 e2 e3 => by
    have hj : i ≠ j := fun hj => by
      subst hj
      have hl : i < env.length := by
        have := (List.getElem?_eq_some_iff.mp e1).1
        rwa [List.length_set] at this
      rw [List.getElem?_set_self hl] at e1
      cases e1
    have hk : i ≠ k := fun hk => by
      subst hk
      have hl : i < env.length := by
        have := (List.getElem?_eq_some_iff.mp e2).1
        rwa [List.length_set] at this
      rw [List.getElem?_set_self hl] at e2
      cases e2
    rw [List.getElem?_set_ne hj] at e1 e3
    rw [List.getElem?_set_ne hk] at e2 ⊢
    exact r.dd j k ks ds ks' ds' p n e1 e2 e3
/-- a dict that none of the slots holds goes into a slot -/
theorem RelS.set_od (r : RelS W G0 H0 env σ G H) {i : Nat} {ks : List Key} {ds : List D} {p : Addr} {kvs : List (Key × V)} (h : H p = some (.dK kvs)) (hg : G p = none) (h0 : fr W H0 p) (hk : kvs.map (·.1) = ks) (q : reps W.K G ds (kvs.map (·.2)))
    (nw : ∀ (j : Nat) ks' es, j ≠ i → env[j]? = some (.od ks' es) → σ[j]? ≠ some (some (.ref p))) : RelS W G0 H0 (env.set i (.od ks ds)) (σ.set i (some (.ref p))) G H where
  w0 := r.w0
  st := r.st
  len := by rw [List.length_set, List.length_set]; exact r.len
  dt := fun j d' e => by
    by_cases hj : i = j
    · subst hj
      have hl : i < env.length := by
        have := (List.getElem?_eq_some_iff.mp e).1
        rwa [List.length_set] at this
      rw [List.getElem?_set_self hl] at e
      cases e
    · rw [List.getElem?_set_ne hj] at e ⊢
      exact r.dt j d' e
  ow := fun j es e => by
    by_cases hj : i = j
    · subst hj
      have hl : i < env.length := by
        have := (List.getElem?_eq_some_iff.mp e).1
        rwa [List.length_set] at this
      rw [List.getElem?_set_self hl] at e
      cases e
    · rw [List.getElem?_set_ne hj] at e ⊢
      exact r.ow j es e
  dj := fun j k es fs p' n e1 e2 e3 => by
    have hj : i ≠ j := fun hj => by
      subst hj
      have hl : i < env.length := by
        have := (List.getElem?_eq_some_iff.mp e1).1
        rwa [List.length_set] at this
      rw [List.getElem?_set_self hl] at e1
      cases e1
    have hk : i ≠ k := fun hk => by
      subst hk
      have hl : i < env.length := by
        have := (List.getElem?_eq_some_iff.mp e2).1
        rwa [List.length_set] at this
      rw [List.getElem?_set_self hl] at e2
      cases e2
    rw [List.getElem?_set_ne hj] at e1 e3
    rw [List.getElem?_set_ne hk] at e2 ⊢
    exact r.dj j k es fs p' n e1 e2 e3
  od := fun j ks' es e => by
    by_cases hj : i = j
    · subst hj
      have hl : i < env.length := by
        have := (List.getElem?_eq_some_iff.mp e).1
        rwa [List.length_set] at this
      rw [List.getElem?_set_self hl] at e
      cases e
      exact ⟨p, kvs, List.getElem?_set_self (by rw [r.len]; exact hl), h, hg, h0, hk, q⟩
    · rw [List.getElem?_set_ne hj] at e ⊢
      exact r.od j ks' es e
  dd := fun j k ks1 es ks2 fs p' n e1 e2 e3 => by
    by_cases hj : i = j
    · subst hj
      have hk : i ≠ k := n
      have hl : i < env.length := by
        have := (List.getElem?_eq_some_iff.mp e1).1
        rwa [List.length_set] at this
      rw [List.getElem?_set_self (by rw [r.len]; exact hl)] at e3
      cases e3
      rw [List.getElem?_set_ne hk] at e2 ⊢
      exact nw k _ fs (Ne.symm hk) e2
    · rw [List.getElem?_set_ne hj] at e1 e3
      by_cases hk : i = k
      · subst hk
        have hl : i < env.length := by
          have := (List.getElem?_eq_some_iff.mp e2).1
          rwa [List.length_set] at this
        rw [List.getElem?_set_self (by rw [r.len]; exact hl)]
        intro z
        cases z
        exact nw j _ es (Ne.symm hj) e1 e3
      · rw [List.getElem?_set_ne hk] at e2 ⊢
        exact r.dd j k ks1 es ks2 fs p' n e1 e2 e3
/-- the list of a slot is changed -/
theorem RelS.chg (r : RelS W G0 H0 env σ G H) {i : Nat} {ds ds' : List D} {p : Addr} {xs' : List V} (e : env[i]? = some (.ow ds)) (es : σ[i]? = some (some (.ref p))) (q : reps W.K G ds' xs') :
    RelS W G0 H0 (env.set i (.ow ds')) σ G (upd H p (.lst xs')) := by
  obtain ⟨p', xs, h1, h2, h3, h4, h5⟩ := r.ow i ds e
  rw [es] at h1
  cases h1
  have hl : i < env.length := (List.getElem?_eq_some_iff.mp e).1
  have wk : WOk W (upd H p (.lst xs')) := r.wok.chg h4.1 h2
  refine ⟨r.w0, ⟨⟨fun b o z => ?_, wk, r.gok.nm, r.gok.tb⟩, r.st.le, r.st.new, fun a o z t n => ?_⟩, ?_, fun j d z => ?_, fun j es' z => ?_, fun j k es' fs p' n e1 e2 e3 => ?_, fun j ks es' z => ?_, fun j k ks1 es' ks2 fs p' n e1 e2 e3 => ?_⟩
  · rw [upd_ne (fun w => by rw [w, h3] at z; cases z)]; exact r.gok.le b o z
  · rw [upd_ne (fun w => by subst w; exact h4.not z t)]; exact r.st.keep a o z t n
  · rw [List.length_set]; exact r.len
  · have hj : i ≠ j := fun hj => by
      subst hj
      rw [List.getElem?_set_self hl] at z
      cases z
    rw [List.getElem?_set_ne hj] at z
    exact r.dt j d z
  · by_cases hj : i = j
    · subst hj
      rw [List.getElem?_set_self hl] at z
      cases z
      exact ⟨p, xs', es, upd_same, h3, h4, q⟩
    · rw [List.getElem?_set_ne hj] at z
      obtain ⟨p', ys, k1, k2, k3, k4, k5⟩ := r.ow j es' z
      refine ⟨p', ys, k1, ?_, k3, k4, k5⟩
      rw [upd_ne (fun w => r.dj i j ds es' p hj e z es (by rw [k1, w]))]
      exact k2
  · have hget : ∀ (a : Nat) (fs : List D), (env.set i (.ow ds'))[a]? = some (.ow fs) → ∃ gs, env[a]? = some (.ow gs) := fun a fs z => by
      by_cases ha : i = a
      · subst ha; exact ⟨ds, e⟩
      · rw [List.getElem?_set_ne ha] at z
        exact ⟨fs, z⟩
    obtain ⟨g1, z1⟩ := hget j es' e1
    obtain ⟨g2, z2⟩ := hget k fs e2
    exact r.dj j k g1 g2 p' n z1 z2 e3
  · have hj : i ≠ j := fun hj => by
      subst hj
      rw [List.getElem?_set_self hl] at z
      cases z
    rw [List.getElem?_set_ne hj] at z
    obtain ⟨p', kvs, k1, k2, k3, k4, k5, k6⟩ := r.od j ks es' z
    refine ⟨p', kvs, k1, ?_, k3, k4, k5, k6⟩
    rw [upd_ne (fun w => by rw [w, h2] at k2; cases k2)]
    exact k2
  · have hj : i ≠ j := fun hj => by
      subst hj
      rw [List.getElem?_set_self hl] at e1
      cases e1
    have hk : i ≠ k := fun hk => by
      subst hk
      rw [List.getElem?_set_self hl] at e2
      cases e2
    rw [List.getElem?_set_ne hj] at e1
    rw [List.getElem?_set_ne hk] at e2
    exact r.dd j k ks1 es' ks2 fs p' n e1 e2 e3
/-- the dict of a slot is changed -/
theorem RelS.chgD (r : RelS W G0 H0 env σ G H) {i : Nat} {ks ks' : List Key} {ds ds' : List D} {p : Addr} {kvs' : List (Key × V)} (e : env[i]? = some (.od ks ds)) (es : σ[i]? = some (some (.ref p))) (hk' : kvs'.map (·.1) = ks') (q : reps W.K G ds' (kvs'.map (·.2))) :
    RelS W G0 H0 (env.set i (.od ks' ds')) σ G (upd H p (.dK kvs')) := by
  obtain ⟨p', kvs, h1, h2, h3, h4, h5, h6⟩ := r.od i ks ds e
  rw [es] at h1
  cases h1
  have hl : i < env.length := (List.getElem?_eq_some_iff.mp e).1
  have wk : WOk W (upd H p (.dK kvs')) := by
    refine ⟨fun h q => ?_, fun q hq => ?_⟩
    · obtain ⟨n, cells, a, x, y, z, g1, g2, g3⟩ := r.wok.hand h q
      refine ⟨n, cells, a, x, y, z, ?_, ?_, g3⟩
      · rw [upd_ne (fun z => h4.1 (.inl ⟨h, q, .inl z.symm⟩))]; exact g1
      · rw [upd_ne (fun z => h4.1 (.inl ⟨h, q, .inr z.symm⟩))]; exact g2
    · obtain ⟨ps, g1, g2, g3⟩ := r.wok.tabs q hq
      refine ⟨ps, ?_, g2, fun pos cv hc => ?_⟩
      · rw [upd_ne (fun z => h4.1 (.inr ⟨q, hq, z.symm⟩))]; exact g1
      · obtain ⟨c, k1, k2⟩ := g3 pos cv hc
        refine ⟨c, k1, ?_⟩
        rw [upd_ne (fun z => ?_)]; exact k2
        rw [z, h2] at k2
        unfold LamX.CodeO at k2
        cases k2
  refine ⟨r.w0, ⟨⟨fun b o z => ?_, wk, r.gok.nm, r.gok.tb⟩, r.st.le, r.st.new, fun a o z t n => ?_⟩, ?_, fun j d z => ?_, fun j es' z => ?_, fun j k es' fs p' n e1 e2 e3 => ?_, fun j ks1 es' z => ?_, fun j k ks1 es' ks2 fs p' n e1 e2 e3 => ?_⟩
  · rw [upd_ne (fun w => by rw [w, h3] at z; cases z)]; exact r.gok.le b o z
  · rw [upd_ne (fun w => by subst w; exact h4.not z t)]; exact r.st.keep a o z t n
  · rw [List.length_set]; exact r.len
  · have hj : i ≠ j := fun hj => by
      subst hj
      rw [List.getElem?_set_self hl] at z
      cases z
    rw [List.getElem?_set_ne hj] at z
    exact r.dt j d z
  · have hj : i ≠ j := fun hj => by
      subst hj
      rw [List.getElem?_set_self hl] at z
      cases z
    rw [List.getElem?_set_ne hj] at z
    obtain ⟨p', ys, k1, k2, k3, k4, k5⟩ := r.ow j es' z
    refine ⟨p', ys, k1, ?_, k3, k4, k5⟩
    rw [upd_ne (fun w => by rw [w, h2] at k2; cases k2)]
    exact k2
  · have hj : i ≠ j := fun hj => by
      subst hj
      rw [List.getElem?_set_self hl] at e1
      cases e1
    have hk : i ≠ k := fun hk => by
      subst hk
      rw [List.getElem?_set_self hl] at e2
      cases e2
    rw [List.getElem?_set_ne hj] at e1
    rw [List.getElem?_set_ne hk] at e2
    exact r.dj j k es' fs p' n e1 e2 e3
  · by_cases hj : i = j
    · subst hj
      rw [List.getElem?_set_self hl] at z
      cases z
      exact ⟨p, kvs', es, upd_same, h3, h4, hk', q⟩
    · rw [List.getElem?_set_ne hj] at z
      obtain ⟨p', ys, k1, k2, k3, k4, k5, k6⟩ := r.od j ks1 es' z
      refine ⟨p', ys, k1, ?_, k3, k4, k5, k6⟩
      rw [upd_ne (fun w => r.dd i j ks ds ks1 es' p hj e z es (by rw [k1, w]))]
      exact k2
  · have hget : ∀ (a : Nat) (ks1 : List Key) (fs : List D), (env.set i (.od ks' ds'))[a]? = some (.od ks1 fs) → ∃ ks2 gs, env[a]? = some (.od ks2 gs) := fun a ks1 fs z => by
      by_cases ha : i = a
      · subst ha; exact ⟨ks, ds, e⟩
      · rw [List.getElem?_set_ne ha] at z
        exact ⟨ks1, fs, z⟩
    obtain ⟨c1, g1, z1⟩ := hget j ks1 es' e1
    obtain ⟨c2, g2, z2⟩ := hget k ks2 fs e2
    exact r.dd j k c1 g1 c2 g2 p' n z1 z2 e3
/-- the list of a slot becomes data -/
theorem RelS.freeze (r : RelS W G0 H0 env σ G H) {i : Nat} {ds : List D} {p : Addr} {xs : List V} (e : env[i]? = some (.ow ds)) (es : σ[i]? = some (some (.ref p))) (hp : H p = some (.lst xs)) :
    RelS W G0 H0 (env.set i (.dt (.lst ds))) σ (upd G p (.lst xs)) H ∧ Same G (upd G p (.lst xs)) := by
  obtain ⟨p', xs', h1, h2, h3, h4, h5⟩ := r.ow i ds e
  rw [es] at h1
  cases h1
  rw [hp] at h2
  cases h2
  have hl : i < env.length := (List.getElem?_eq_some_iff.mp e).1
  have m : ¬ W.mem p := h4.1
  have sm : Same G (upd G p (.lst xs)) := same_new h3
  refine ⟨⟨r.w0, ⟨r.gok.show hp h3 m, r.st.le.trans sm, fun a o z => ?_, r.st.keep⟩, ?_, fun j d z => ?_, fun j es' z => ?_, fun j k es' fs p' n e1 e2 e3 => ?_, fun j ks es' z => ?_, fun j k ks1 es' ks2 fs p' n e1 e2 e3 => ?_⟩, sm⟩
  · by_cases ha : a = p
    · subst ha; exact .inr h4
    · rw [upd_ne ha] at z; exact r.st.new a o z
  · rw [List.length_set]; exact r.len
  · by_cases hj : i = j
    · subst hj
      rw [List.getElem?_set_self hl] at z
      cases z
      refine ⟨.ref p, es, ?_⟩
      unfold rep
      exact ⟨p, xs, rfl, upd_same, reps_mono sm _ _ h5⟩
    · rw [List.getElem?_set_ne hj] at z
      obtain ⟨v, k1, k2⟩ := r.dt j d z
      exact ⟨v, k1, rep_mono sm _ _ k2⟩
  · have hj : i ≠ j := fun hj => by
      subst hj
      rw [List.getElem?_set_self hl] at z
      cases z
    rw [List.getElem?_set_ne hj] at z
    obtain ⟨p', ys, k1, k2, k3, k4, k5⟩ := r.ow j es' z
    refine ⟨p', ys, k1, k2, ?_, k4, reps_mono sm _ _ k5⟩
    rw [upd_ne (fun w => r.dj i j ds es' p hj e z es (by rw [k1, w]))]
    exact k3
  · have hj : i ≠ j := fun hj => by
      subst hj
      rw [List.getElem?_set_self hl] at e1
      cases e1
    have hk : i ≠ k := fun hk => by
      subst hk
      rw [List.getElem?_set_self hl] at e2
      cases e2
    rw [List.getElem?_set_ne hj] at e1
    rw [List.getElem?_set_ne hk] at e2
    exact r.dj j k es' fs p' n e1 e2 e3
  · have hj : i ≠ j := fun hj => by
      subst hj
      rw [List.getElem?_set_self hl] at z
      cases z
    rw [List.getElem?_set_ne hj] at z
    obtain ⟨p', kvs, k1, k2, k3, k4, k5, k6⟩ := r.od j ks es' z
    refine ⟨p', kvs, k1, k2, ?_, k4, k5, reps_mono sm _ _ k6⟩
    rw [upd_ne (fun w => by rw [w, hp] at k2; cases k2)]
    exact k3
  · have hj : i ≠ j := fun hj => by
      subst hj
      rw [List.getElem?_set_self hl] at e1
      cases e1
    have hk : i ≠ k := fun hk => by
      subst hk
      rw [List.getElem?_set_self hl] at e2
      cases e2
    rw [List.getElem?_set_ne hj] at e1
    rw [List.getElem?_set_ne hk] at e2
    exact r.dd j k ks1 es' ks2 fs p' n e1 e2 e3
/-- the dict of a slot becomes data -/
theorem RelS.freezeD (r : RelS W G0 H0 env σ G H) {i : Nat} {ks : List Key} {ds : List D} {p : Addr} {kvs : List (Key × V)} (e : env[i]? = some (.od ks ds)) (es : σ[i]? = some (some (.ref p))) (hp : H p = some (.dK kvs)) :
    RelS W G0 H0 (env.set i (.dt (.dct ks ds))) σ (upd G p (.dK kvs)) H ∧ Same G (upd G p (.dK kvs)) := by
  obtain ⟨p', kvs', h1, h2, h3, h4, h5, h6⟩ := r.od i ks ds e
  rw [es] at h1
  cases h1
  rw [hp] at h2
  cases h2
  have hl : i < env.length := (List.getElem?_eq_some_iff.mp e).1
  have m : ¬ W.mem p := h4.1
  have sm : Same G (upd G p (.dK kvs)) := same_new h3
  refine ⟨⟨r.w0, ⟨r.gok.show hp h3 m, r.st.le.trans sm, fun a o z => ?_, r.st.keep⟩, ?_, fun j d z => ?_, fun j es' z => ?_, fun j k es' fs p' n e1 e2 e3 => ?_, fun j ks1 es' z => ?_, fun j k ks1 es' ks2 fs p' n e1 e2 e3 => ?_⟩, sm⟩
  · by_cases ha : a = p
    · subst ha; exact .inr h4
    · rw [upd_ne ha] at z; exact r.st.new a o z
  · rw [List.length_set]; exact r.len
  · by_cases hj : i = j
    · subst hj
      rw [List.getElem?_set_self hl] at z
      cases z
      refine ⟨.ref p, es, ?_⟩
      unfold rep
      exact ⟨p, kvs, rfl, upd_same, h5, reps_mono sm _ _ h6⟩
    · rw [List.getElem?_set_ne hj] at z
      obtain ⟨v, k1, k2⟩ := r.dt j d z
      exact ⟨v, k1, rep_mono sm _ _ k2⟩
  · have hj : i ≠ j := fun hj => by
      subst hj
      rw [List.getElem?_set_self hl] at z
      cases z
    rw [List.getElem?_set_ne hj] at z
    obtain ⟨p', ys, k1, k2, k3, k4, k5⟩ := r.ow j es' z
    refine ⟨p', ys, k1, k2, ?_, k4, reps_mono sm _ _ k5⟩
    rw [upd_ne (fun w => by rw [w, hp] at k2; cases k2)]
    exact k3
  · have hj : i ≠ j := fun hj => by
      subst hj
      rw [List.getElem?_set_self hl] at e1
      cases e1
    have hk : i ≠ k := fun hk => by
      subst hk
      rw [List.getElem?_set_self hl] at e2
      cases e2
    rw [List.getElem?_set_ne hj] at e1
    rw [List.getElem?_set_ne hk] at e2
    exact r.dj j k es' fs p' n e1 e2 e3
  · have hj : i ≠ j := fun hj => by
      subst hj
      rw [List.getElem?_set_self hl] at z
      cases z
    rw [List.getElem?_set_ne hj] at z
    obtain ⟨p', ys, k1, k2, k3, k4, k5, k6⟩ := r.od j ks1 es' z
    refine ⟨p', ys, k1, k2, ?_, k4, k5, reps_mono sm _ _ k6⟩
    rw [upd_ne (fun w => r.dd i j ks ds ks1 es' p hj e z es (by rw [k1, w]))]
    exact k3
  · have hj : i ≠ j := fun hj => by
      subst hj
      rw [List.getElem?_set_self hl] at e1
      cases e1
    have hk : i ≠ k := fun hk => by
      subst hk
      rw [List.getElem?_set_self hl] at e2
      cases e2
    rw [List.getElem?_set_ne hj] at e1
    rw [List.getElem?_set_ne hk] at e2
    exact r.dd j k ks1 es' ks2 fs p' n e1 e2 e3
end
end DL
/-! exceptions whose context is known: lambdas, classes with a field (the kit's L2N, which has no such road yet) -/
namespace DL
open PySem PySem.Spec PyProof.Rows L2 LamX
theorem takesN0 {X : Cx} : L2N.Takes X (fun _ _ _ _ => False) := fun _ _ ⟨_, _, _, _, _, _, _, _, _, _, _, _, _, _, _, _, no⟩ => no.elim
/-- the lambda's body, what leaves it told with its context -/
def lamN (X : Cx) (A : Around) (outer : List Env) (z : Shared) (H : Hp) (E : XK) (scope : Scope) (f c' : Addr) : Cx :=
  { lamCx X A outer z H E scope f c' with
    xe := fun e z' => wpAny (model X.prog X.w) (A.deeper (lamEnv X scope z.heap.objs.size f c')) (leaving (lamEnv X scope z.heap.objs.size f c') e) (fun _ z2 => L2N.CX X.prog X.w outer H z E e z2) (fun e' z2 => L2N.CX X.prog X.w outer H z E e' z2) z' }
theorem inv_lamN {X : Cx} {A : Around} {outer : List Env} {z y : Shared} {H H' : Hp} {E : XK} {scope : Scope} {f c' : Addr} {pins : List (Addr × Obj)} {σ : L2.St} (V : Inv (lamCx X A outer z H E scope f c') pins σ H' y) : Inv (lamN X A outer z H E scope f c') pins σ H' y :=
  ⟨⟨V.ok.mod, V.ok.kind, V.ok.glob, V.ok.blt, V.ok.above, V.ok.inj, V.ok.has, V.ok.cab, V.ok.hd, V.ok.frames, V.ok.stk, V.ok.exf, V.ok.bs, V.ok.bsz, V.ok.noex, V.ok.exfs, V.ok.funs, V.ok.frf⟩, V.os, V.bare, V.base, V.loc, V.cell, V.free, V.freeC, V.pin, V.hok, V.len⟩
section
variable {X : Cx} {pins : List (Addr × Obj)} {σ : L2.St} {H HZ : Hp} {z z1 : Shared}
/-- the lambda called by the def that got it -/
theorem actN {CXg : CXT} {Eg : XK} {Ng : List Str} {qg : Str} {sg : Scope} {g f c' : Addr} {cdg pm ctv : Value} {params : Arguments} {body : Expr} {scope : Scope} {k i : Nat} {a : Str} {pn : List (Addr × Obj)} {xe : Value → Shared → Prop} {U : WX} {E : XK} {tb : TE} {p1 p2 : Pos} (V : Inv X pins σ H z) (L : LamS X.env.scope scope)
    (ef : z.heap.get? f = some (PySem.W.kla_obj "<lambda>" (X.env.qual ++ "<lambda>") params body scope (cloFrom X.env.cells scope.names []) pm c' ctv)) (nf : H f = none) (ff : f ∉ frs X.stack) (hbind : bindArgs (PySem.W.kla_fn "<lambda>" (X.env.qual ++ "<lambda>") params body scope (cloFrom X.env.cells scope.names []) pm (.ref c') ctv) ⟨[], []⟩ = pure [])
    (tk : L2N.Takes ((cxOf CXg X.prog X.w X.K X.mg X.base Ng qg sg g cdg X.A X.stack z H Eg).tr pn xe) U) (hU : ∀ cls d σ' H', E cls d H' → U cls d σ' H') (room : Room (k + 1) (X.A.deeper (envOfC qg sg z.heap.objs.size g cdg)))
    (hbody : ∀ (A : Around) (outer : List Env) (y : Shared) (H : Hp), Room k (A.deeper (lamEnv X scope y.heap.objs.size f c')) → PE (lamN X A outer y H E scope f c') body tb) (hN : Ng[i]? = some a) (hv : Vis sg a) (hd : (a == ("__debug__" : Str)) = false) (hcd : (a == ("__classdict__" : Str)) = false) :
    PE ((cxOf CXg X.prog X.w X.K X.mg X.base Ng qg sg g cdg X.A X.stack z H Eg).tr pn xe) (.Call (.Name a p1) [] [] p2) (fun τ HZ Q => τ[i]? = some (some (.ref f)) ∧ HZ c' = some (CodeO c' (X.env.qual ++ "<lambda>")) ∧ tb σ HZ Q) := by
  refine ⟨fun pz y τ HZ Q VZ ⟨hs, hc, ht⟩ => wpAny_Call_Name_kw (thn ((pe_var (pos := p1) (i := i) hN hv hd hcd).run pz y τ HZ (fun v H1 => v = .ref f ∧ H1 = HZ) VZ ⟨.ref f, hs, rfl, rfl⟩) fun u y1 ⟨v, H1, V1, r1, ev, eH⟩ => ?_)⟩
  subst ev
  rw [eH] at V1
  obtain rfl : u = Value.ref f := r1
  have of1 := V1.base.keep f _ ef nf ff (fun q => nomatch (show f ∈ ([] : List Addr) from q))
  refine PySem.W.callWith_F0 ⟨_, _, _, _, of1⟩ ?_
  have un : Un (frs X.stack) [] H HZ z.heap y1.heap := V1.base
  obtain ⟨⟨oc, vs, t, hoc, hdc, hvc⟩, _, _⟩ := V1.hok c' _ hc
  have run : codeAny (model X.prog X.w) (X.A.deeper (envOfC qg sg z.heap.objs.size g cdg)) (.call (.ref f) ⟨[], []⟩) (CR (L2N.CX X.prog X.w) (envOfC qg sg z.heap.objs.size g cdg :: X.stack) X.prog X.w HZ y1 Q E) y1 := by
    refine PySem.W.kla_callFunE room.depth of1 rfl L.co L.gen rfl ⟨c', oc, vs, t, rfl, hoc, hdc, hvc⟩ ?_
    rw [hbind]
    refine wpAny_pure (wpAny_newFunctionEnv (fun w hw => (L.own w hw).2) (fun w hw => absurd hw (by simp)) (fun h1 hns sb => ⟨V1.nolimit.fresh _ sb, ?_⟩) L.kind)
    show codeAny _ _ (.expr body (lamEnv X scope y1.heap.objs.size f c')) _ _
    have J := inv_lamN (lam_start2 (A := X.A.deeper (envOfC qg sg z.heap.objs.size g cdg)) (outer := envOfC qg sg z.heap.objs.size g cdg :: X.stack) (E := E) (f := f) (c' := c') (tk := y1.toks + ([] : List (Str × Value)).length) V L V1.env0 room.hd un hns fun b o e => sb.extBut b o (Nat.ne_of_lt (Heap.lt_size e)) (Heap.get?_push_of_some _ e))
    exact PySem.W.kla_codeExpr (wpAny_mono ((hbody _ _ y1 HZ (room.deeper _)).run [] _ _ HZ Q J ht) (fun v y2 ⟨w', H', J', rv, q⟩ => ⟨w', H', J'.os, J'.bare, J'.base, J'.hok, rv, q⟩) fun e y2 hq => hq)
  have out : Passes (L2N.CX X.prog X.w) ((cxOf CXg X.prog X.w X.K X.mg X.base Ng qg sg g cdg X.A X.stack z H Eg).tr pn xe) E := L2N.passes_call tk hU
  refine wpAny_call (codeAny_mono run fun r y2 hq => ?_)
  match r, hq with
  | .error e, hq => exact out pz τ HZ y1 e y2 V1 hq
  | .ok (.ret u), hq => exact V1.after hq
  | .ok .next, hq => exact False.elim hq
  | .ok .brk, hq => exact False.elim hq
  | .ok .cont, hq => exact False.elim hq
end
/-- what the def that calls a lambda makes of it -/
def GivesN (X : Cx) (Ng : List Str) (x : Str) (sg : Scope) (g : Addr) (cdg : Value) (bg : List Stmt) (a : Str) (q : Str) (TT : (XK → Hp → VK → Prop) → Hp → VK → Prop) : Prop := ∀ (f c' : Addr) (z : Shared) (H : Hp) (Q : VK) (tl : XK → Hp → VK → Prop),
  (∀ (U : WX) (pn : List (Addr × Obj)) (xe : Value → Shared → Prop) (E : XK) (p1 p2 : Pos), L2N.Takes ((cxOf C8.CX0 X.prog X.w X.K X.mg X.base Ng x sg g cdg X.A X.stack z H C8.E0).tr pn xe) U → (∀ cls d σ' H', E cls d H' → U cls d σ' H') →
    PE ((cxOf C8.CX0 X.prog X.w X.K X.mg X.base Ng x sg g cdg X.A X.stack z H C8.E0).tr pn xe) (.Call (.Name a p1) [] [] p2) (fun τ HZ Q => τ[0]? = some (some (.ref f)) ∧ HZ c' = some (CodeO c' q) ∧ tl E HZ Q)) → H c' = some (CodeO c' q) → TT tl H Q →
  ∃ t, PSs (cxOf C8.CX0 X.prog X.w X.K X.mg X.base Ng x sg g cdg X.A X.stack z H C8.E0).nox bg t ∧ t { nx := fun _ H' => Q .non H', rt := Q } (L2.start Ng [.ref f]) H
theorem lamcallN {X : Cx} {T : List (Addr × Str)} {TT : (XK → Hp → VK → Prop) → Hp → VK → Prop} {x a : Str} {g c P : Addr} {k : Nat} {pg : Arguments} {bg : List Stmt} {sg : Scope} {dV kV doc pm cdv ct oc : Value} {an od : Option Addr} {osl : Array (Option Value)} {Ng : List Str} {params : Arguments} {body : Expr} {scope : Scope} {t : XK → TE} {p lpos pos : Pos}
    (hg : Gl X x) (hm : X.mg x = some (.ref g)) (hk : PySem.W.keepIn X.K (.ref g) = true) (lk : X.K.lookup g = some ⟨oc, od, .func (PySem.W.fnOf x x pg bg sg dV kV doc pm an cdv ct), osl⟩) (hcg : PySem.W.codeIn X.K cdv x = true) (hb : L2.Binds X.K (PySem.W.fnOf x x pg bg sg dV kV doc pm an cdv ct) [a] [])
    (Sg : FnScope Ng [a] sg) (hNg : Ng[0]? = some a) (hva : Vis sg a) (hG : GivesN X Ng x sg g cdv bg a (X.env.qual ++ "<lambda>") TT) (TB : TabB X.base X.mg c P) (hcode : X.env.code = .ref c) (hmT : (P, X.env.qual ++ "<lambda>") ∈ T) (hu : ∀ p ∈ T, p.1 = P → p.2 = X.env.qual ++ "<lambda>") (room : Room (k + 2) X.A)
    (L : LamS X.env.scope scope) (hdef : defaultsOf params X.env = ([], [])) (hbind : ∀ (q : Str) (cl : List (Str × Addr)) (pm cv ctv : Value), bindArgs (PySem.W.kla_fn "<lambda>" q params body scope cl pm cv ctv) ⟨[], []⟩ = pure [])
    (hbody : ∀ (A : Around) (outer : List Env) (z : Shared) (H : Hp) (E : XK) (f c' : Addr), Room k (A.deeper (lamEnv X scope z.heap.objs.size f c')) → PE (lamN X A outer z H E scope f c') body (t E)) (hdb : (x == ("__debug__" : Str)) = false := by decide) (hd : (a == ("__debug__" : Str)) = false := by decide) (hcd : (a == ("__classdict__" : Str)) = false := by decide) :
    PE X (.Call (.Name x p) [.Lambda params body scope lpos] [] pos) (tLam T TT t) := by
  refine ⟨fun pins z σ H Q V ⟨hT, h⟩ => wpAny_Call_Name_kw (ld_glob V hg hm (PySem.W.callWith_K (h₀ := X.base) V.ok.mod.kin hk ?_ (by rfl) (by rfl)) hdb)⟩
  show wpAny _ _ (spliced ((false, eval (.Lambda params body scope lpos) X.env) :: backTo pos (starEach [] X.env))) _ _ z
  refine Calls.spliced_cons (lam_make2 V TB hcode hmT hu hT hdef (L.has V.ok) fun f c' pm' ctv H1 y V1 eN T1 ef nf ff hco => Calls.spliced_nil ⟨V1.kIn, ?_⟩)
  have run : codeAny (model X.prog X.w) X.A (.call (.ref g) ⟨[.ref f], []⟩) (CR C8.CX0 X.stack X.prog X.w H1 y Q C8.E0) y := by
    refine run_ofS (N := Ng) (ps := [a]) (us := [.ref f]) (vs := [.ref f]) lk hcg Sg room V1.env0 (hb y [.ref f] V1.kIn rfl) (.cons rfl .nil) rfl fun room' => ?_
    obtain ⟨t', h1, h2⟩ := hG f c' y H1 Q (fun E H' Q' => t E σ H' Q') (fun U pn xe E p1 p2 tk hU => actN (i := 0) V1 L ef nf ff (hbind _ _ _ _ _) tk hU room' (fun A outer z H r2 => hbody A outer z H E f c' r2) hNg hva hd hcd) hco (h H1 eN T1)
    exact ⟨t', h1.nox, h2⟩
  refine wpAny_call (codeAny_mono run fun r y2 hq => ?_)
  match r, hq with
  | .error e, hq => exact (show False from hq).elim
  | .ok (.ret u), hq => exact V1.after hq
  | .ok .next, hq => exact False.elim hq
  | .ok .brk, hq => exact False.elim hq
  | .ok .cont, hq => exact False.elim hq
/-- C(e, ..), C an own class with its __init__ -/
theorem oexN {X : Cx} {CX : CXT} {x : Str} {e : Expr} {es : List Expr} {ta : TA} {p pos : Pos} {C fI : Addr} {k : Nat} {fd : FuncData} {ps : List Str} {sp : Sp} (T : OexC X.K C) (iC : PySem.W.findIn X.K (.ref C) "__init__" = some (some (.ref fI))) (tI : PySem.W.typeIn X.K (.ref fI) = some (.type "function"))
    (F1 : FnOk X.prog X.w X.K X.mg X.base CX k fI fd ps sp) (room : Room (k + 1) X.A) (hb : Binds X.K fd ps []) (hx : Passes CX X (fun _ _ _ => False)) (hg : Gl X x) (hm : X.mg x = some (.ref C)) (ha : PA X (e :: es) ta) (hdb : (x == ("__debug__" : Str)) = false := by decide)
    (he : starEach (e :: es) X.env = (false, eval e X.env) :: starEach es X.env := by rfl) (hpl : (backTo pos (starEach es X.env)).any (·.1) = false := by rfl) : L2N.PMk X (.Call (.Name x p) (e :: es) [] pos) (tMkO C sp [] ta) := by
  intro pins z σ H Q Vq h
  obtain ⟨nm, q, N, bs, bm, sn, sub, ab, col, dd, k0, k1, k2, k3, k5, hC, hbm⟩ := T.cls
  refine wpAny_Call_Name_kw (ld_glob Vq hg hm (PySem.W.callWith_K (h₀ := X.base) Vq.ok.mod.kin T.kC (thn (ha.run pos pins z σ H _ Vq h) fun us z1 ⟨vs, H1, V1, r1, hz, q1⟩ => ⟨V1.kIn, ?_⟩) he hpl) hdb)
  show wpAny _ _ (call (.ref C) us) _ _ _
  obtain ⟨hp, g, dr, tk, os⟩ := z1
  have up : hp.objs.size ≤ hp.objs.size + 1 := Nat.le_succ _
  have hq := q1 (hp.objs.size + 1) (V1.hok.fresh up)
  have kk : ∀ b o, hp.get? b = some o → ((hp.push (PySem.W.kdv_tup us)).push (PySem.HandSPX.excO C hp.objs.size)).get? b = some o := fun b o y => Heap.get?_push_of_some _ (Heap.get?_push_of_some _ y)
  have at1 : ((hp.push (PySem.W.kdv_tup us)).push (PySem.HandSPX.excO C hp.objs.size)).get? (hp.objs.size + 1) = some (PySem.HandSPX.excO C hp.objs.size) := by heap_get
  have V2 : Inv X pins σ (upd H1 (hp.objs.size + 1) (exo (hp.objs.size + 1) C none)) ⟨(hp.push (PySem.W.kdv_tup us)).push (PySem.HandSPX.excO C hp.objs.size), g, dr, tk, os⟩ :=
    V1.laid (t' := tk) (a := hp.objs.size + 1) (o := exo (hp.objs.size + 1) C none) (h' := (hp.push (PySem.W.kdv_tup us)).push (PySem.HandSPX.excO C hp.objs.size)) kk up (exo_ok at1)
  rw [List.append_nil] at hq
  have r2 : Vals (V.ref (hp.objs.size + 1) :: vs) (Value.ref (hp.objs.size + 1) :: us) := .cons rfl r1
  have hl : (Value.ref (hp.objs.size + 1) :: us).length = ps.length := by rw [← r2.length]; exact F1.len _ _ _ _ hq
  have b2 := hb _ (Value.ref (hp.objs.size + 1) :: us) V2.kIn (by rw [List.append_nil]; exact hl)
  rw [List.append_nil] at b2
  refine wpAny_call (PySem.HandSPX.call_own F.excBase_ValueError (fun Y => PySem.HandSPX.refsVE_contains Y bm hbm) (V1.kIn _ _ hC) (PySem.W.looks_findIn V1.kIn iC) (fun self => PySem.W.bind_fn V1.kIn self tI) (by rw [← Paired.length r1, sizeLine_eq]; omega)
    (codeAny_mono (F1.run _ X.stack _ _ ⟨Value.ref (hp.objs.size + 1) :: us, []⟩ (Value.ref (hp.objs.size + 1) :: us) _ _ (fun _ _ _ => False) (room.make C us []) (V2.env0.make C us []) b2 r2 hq) fun r z2 hq' => ?_))
  match r, hq' with
  | .error er, hq' => exact hx pins σ _ _ er z2 V2 hq'
  | .ok (.ret u), hq' =>
    obtain ⟨v, H2, os2, bare2, un2, hok2, rv, ev, d, fs, ea, ed, hd1, q2⟩ := hq'
    subst ev
    obtain ⟨h2, g2, d2, t2, os'⟩ := z2
    obtain ⟨t0, G, J, kG, ge, hoe, na⟩ := mk_end0 (d2 := d2) (t2 := t2) V1 up kk un2 hok2 os2 bare2 ea ed hd1
    exact ⟨rv, hp.objs.size + 1, _, _, ⟨G, g2, d2, t2, os'⟩, _, .ref C, some d, rfl, J, kG, ge, hoe, ⟨rfl, rfl, fun ws hw => by cases hw; rfl⟩, rfl, rfl, na, rfl, bare2, raises_own T.exC T.tyC, q2⟩
  | .ok .next, hq' => exact False.elim hq'
  | .ok .brk, hq' => exact False.elim hq'
  | .ok .cont, hq' => exact False.elim hq'
/-- a def's promise, its exceptions told with their context -/
theorem okN {P : Program} {w : World} {K : PySem.W.Frag} {mg : Str → Option Value} {base : Heap} {x qual : Str} {st : Stmt} {f : Addr} {fd : FuncData} {N ps : List Str} {k : Nat} {sp : Sp} (F : Fun K x qual st f fd) (S : FnScope N ps (defScope st)) (len : ∀ vs H Q E, sp vs H Q E → vs.length = ps.length)
    (hbody : ∀ (cdv : Value) (A : Around) (outer : List Env) (z : Shared) (H : Hp) (vs : List V) (Q : VK) (E : XK), Room k (A.deeper (envOfC qual (defScope st) z.heap.objs.size f cdv)) → sp vs H Q E → ∃ t, PSs (cxOf (L2N.CX P w) P w K mg base N qual (defScope st) f cdv A outer z H E) (defBody st) t ∧ t { nx := fun _ H' => Q .non H', rt := Q } (L2.start N vs) H) :
    FnOk P w K mg base (L2N.CX P w) (k + 1) f fd ps sp := by
  obtain ⟨oc, od, kV, doc, pm, an, cdv, ct, osl, rfl, lk, hcd⟩ := F.ex
  exact fn_of lk hcd S len fun A outer z H vs Q E room h => hbody cdv A outer z H vs Q E room h
end DL
/-! the judgements of the data semantics -/
namespace DL
open PySem PySem.Spec PyProof.Rows L2

/-- an exception: its class by name, its fields -/
structure Ex where
  nm : String
  ks : List Str
  ds : List D
abbrev PX := Ex → Prop
abbrev PD := D → Prop
/-- readings in data: an expression's, a test's, a list's (that is only read), an argument list's -/
abbrev WE := Env1 → PD → PX → Prop
abbrev WT := Env1 → (Bool → Prop) → PX → Prop
abbrev WL := Env1 → (List D → Prop) → PX → Prop
inductive Rs where
  | dt (d : D) | fr (ds : List D)
structure DEn where
  nx : Env1 → Prop
  rt : Rs → Prop
  bk : Env1 → Prop := fun _ => False
  ct : Env1 → Prop := fun _ => False
abbrev WS := Env1 → DEn → PX → Prop

def exRep (W : Wd) (G : Hp) (ex : Ex) (cls : Value) (dx : Option Addr) (H : Hp) : Prop :=
  cls = .ref (W.cls ex.nm) ∧ (match ex.ks with
    | [] => dx = none
    | _ :: _ => ∃ d vs, dx = some d ∧ H d = some (.xd vs) ∧ vs.map (·.1) = ex.ks ∧ reps W.K G ex.ds (vs.map (·.2)))
def XOk (W : Wd) (G0 H0 : Hp) (E : XK) : PX := fun ex => ∀ cls dx G' H', Gst W G0 H0 G' H' → exRep W G' ex cls dx H' → E cls dx H'
/-- a list that may be read: data, or owned -/
def lrep (W : Wd) (G H : Hp) (ds : List D) (v : V) : Prop := ∃ p xs, v = .ref p ∧ H p = some (.lst xs) ∧ ¬ W.mem p ∧ reps W.K G ds xs
def QE (W : Wd) (G H : Hp) (Q : VK) : PD := fun d => ∀ v G' H', Gst W G H G' H' → rep W.K G' d v → Q v H'
def QT (W : Wd) (G H : Hp) (Q : Bool → Hp → Prop) : Bool → Prop := fun b => ∀ G' H', Gst W G H G' H' → Q b H'
def QL (W : Wd) (G H : Hp) (Q : VK) : List D → Prop := fun ds => ∀ v G' H', Gst W G H G' H' → lrep W G' H' ds v → Q v H'
/-- a list that is new -/
def QF (W : Wd) (G H : Hp) (Q : VK) : List D → Prop := fun ds => ∀ p xs G' H', Gst W G H G' H' → fr W H p → H' p = some (.lst xs) → G' p = none → reps W.K G' ds xs → Q (.ref p) H'
def QA (W : Wd) (G H : Hp) (Q : List V → Hp → Prop) : List D → Prop := fun ds => ∀ vs G' H', Gst W G H G' H' → reps W.K G' ds vs → Q vs H'
/-- what a return hands back -/
def repR (W : Wd) (H0 G H : Hp) : Rs → V → Prop
  | .dt d, v => rep W.K G d v
  | .fr ds, v => ∃ p xs, v = .ref p ∧ H p = some (.lst xs) ∧ G p = none ∧ fr W H0 p ∧ reps W.K G ds xs
def dnOf (W : Wd) (G0 H0 G : Hp) (Dv : Ends) : DEn where
  nx := fun env => ∀ σ G' H', Same G G' → RelS W G0 H0 env σ G' H' → Dv.nx σ H'
  rt := fun r => ∀ v G' H', Same G G' → Gst W G0 H0 G' H' → repR W H0 G' H' r v → Dv.rt v H'
  bk := fun env => ∀ σ G' H', Same G G' → RelS W G0 H0 env σ G' H' → Dv.bk σ H'
  ct := fun env => ∀ σ G' H', Same G G' → RelS W G0 H0 env σ G' H' → Dv.ct σ H'
structure DEn.le (D D' : DEn) : Prop where
  nx : ∀ e, D.nx e → D'.nx e
  rt : ∀ r, D.rt r → D'.rt r
  bk : ∀ e, D.bk e → D'.bk e
  ct : ∀ e, D.ct e → D'.ct e
theorem DEn.le.refl (D : DEn) : D.le D := ⟨fun _ h => h, fun _ h => h, fun _ h => h, fun _ h => h⟩
theorem dnOf_le {W : Wd} {G0 H0 G G' : Hp} {Dv : Ends} (s : Same G G') : (dnOf W G0 H0 G Dv).le (dnOf W G0 H0 G' Dv) :=
  ⟨fun _ h σ G2 H2 s2 r => h σ G2 H2 (s.trans s2) r, fun _ h v G2 H2 s2 r => h v G2 H2 (s.trans s2) r, fun _ h σ G2 H2 s2 r => h σ G2 H2 (s.trans s2) r, fun _ h σ G2 H2 s2 r => h σ G2 H2 (s.trans s2) r⟩
def Mono {α : Type} (f : Env1 → (α → Prop) → PX → Prop) : Prop := ∀ env Q Q' X, (∀ a, Q a → Q' a) → f env Q X → f env Q' X
def MonoS (f : WS) : Prop := ∀ env (D D' : DEn) X, D.le D' → f env D X → f env D' X

/-- where the code stands -/
structure DC (W : Wd) (E : XK) (k : Nat) (X : Cx) : Prop where
  hK : X.K = W.K
  calm : X.calm = true
  nd : X.N.Nodup
  tk : L2N.Takes X (fun cls d _ H => E cls d H)
  room : Room k X.A
  po : PassesOwn (model X.prog X.w) X.A X.env X.xe

/-- what plain rules ask of the place -/
structure DB0 (W : Wd) (X : Cx) : Prop where
  hK : X.K = W.K
  un : X.A.units + 64 < cLine
theorem DC.b {W : Wd} {E : XK} {k : Nat} {X : Cx} (C : DC W E k X) : DB0 W X := ⟨C.hK, C.room.units⟩
section
variable (W : Wd) (G0 H0 : Hp) (E : XK) (X : Cx)
structure DE (e : Expr) (f : WE) : Prop where
  mono : Mono f
  ex : ∃ t, PE X e t ∧ ∀ env σ G H Q, RelS W G0 H0 env σ G H → f env (QE W G H Q) (XOk W G0 H0 E) → t σ H Q
structure DT (e : Expr) (f : WT) : Prop where
  mono : Mono f
  ex : ∃ t, PT X e t ∧ ∀ env σ G H Q, RelS W G0 H0 env σ G H → f env (QT W G H Q) (XOk W G0 H0 E) → t σ H Q
/-- a chain of and, or: as a test whatever stands around -/
structure DW (e : Expr) (f : WT) : Prop where
  mono : Mono f
  ex : ∃ t, PW X e t ∧ ∀ env σ G H Q, RelS W G0 H0 env σ G H → f env (QT W G H Q) (XOk W G0 H0 E) → t σ H Q
structure DLs (e : Expr) (f : WL) : Prop where
  mono : Mono f
  ex : ∃ t, PE X e t ∧ ∀ env σ G H Q, RelS W G0 H0 env σ G H → f env (QL W G H Q) (XOk W G0 H0 E) → t σ H Q
structure DF (e : Expr) (f : WL) : Prop where
  mono : Mono f
  ex : ∃ t, PE X e t ∧ ∀ env σ G H Q, RelS W G0 H0 env σ G H → f env (QF W G H Q) (XOk W G0 H0 E) → t σ H Q
structure DA (es : List Expr) (f : WL) : Prop where
  mono : Mono f
  len : ∀ env Q Y, f env Q Y → f env (fun ds => ds.length = es.length ∧ Q ds) Y
  ex : ∃ t, PA X es t ∧ ∀ env σ G H Q, RelS W G0 H0 env σ G H → f env (QA W G H Q) (XOk W G0 H0 E) → t σ H Q
structure DS (st : Stmt) (f : WS) : Prop where
  mono : MonoS f
  ex : ∃ t, PS X st t ∧ ∀ env σ G H Dv, RelS W G0 H0 env σ G H → f env (dnOf W G0 H0 G Dv) (XOk W G0 H0 E) → t Dv σ H
structure DSs (sts : List Stmt) (f : WS) : Prop where
  mono : MonoS f
  ex : ∃ t, PSs X sts t ∧ ∀ env σ G H Dv, RelS W G0 H0 env σ G H → f env (dnOf W G0 H0 G Dv) (XOk W G0 H0 E) → t Dv σ H
end

section
variable {W : Wd} {G0 H0 G G' H H' : Hp} {E : XK} {X : Cx} {k : Nat} {env : Env1} {σ : L2.St}
theorem QE.step (s : Gst W G H G' H') {Q : VK} {d : D} (h : QE W G H Q d) : QE W G' H' Q d := fun v G2 H2 t r => h v G2 H2 (s.trans t) r
theorem QT.step (s : Gst W G H G' H') {Q : Bool → Hp → Prop} {d : Bool} (h : QT W G H Q d) : QT W G' H' Q d := fun G2 H2 t => h G2 H2 (s.trans t)
theorem QL.step (s : Gst W G H G' H') {Q : VK} {d : List D} (h : QL W G H Q d) : QL W G' H' Q d := fun v G2 H2 t r => h v G2 H2 (s.trans t) r
theorem QA.step (s : Gst W G H G' H') {Q : List V → Hp → Prop} {d : List D} (h : QA W G H Q d) : QA W G' H' Q d := fun v G2 H2 t r => h v G2 H2 (s.trans t) r
theorem QF.step (s : Gst W G H G' H') {Q : VK} {d : List D} (h : QF W G H Q d) : QF W G' H' Q d := fun p xs G2 H2 t n a b r => h p xs G2 H2 (s.trans t) (s.fr n) a b r
/-- a list to be read stays so -/
theorem lrep.step {ds : List D} {v : V} (h : lrep W G H ds v) (s : Gst W G H G' H') : lrep W G' H' ds v := by
  obtain ⟨p, xs, e, q, m, r⟩ := h
  exact ⟨p, xs, e, s.keep _ _ q lst_tbl m, m, reps_mono s.le _ _ r⟩
theorem lrep.data {ds : List D} {v : V} (g : GOk W G H) (h : rep W.K G (.lst ds) v) : lrep W G H ds v := by
  unfold rep at h
  obtain ⟨p, xs, e, q, r⟩ := h
  exact ⟨p, xs, e, g.le _ _ q, fun m => (by rw [g.nm _ m] at q; cases q), r⟩

theorem ite_mono {c : Bool} {A B A' B' : Prop} (h1 : A → A') (h2 : B → B') (h : if c = true then A else B) : if c = true then A' else B' := by
  cases c with
  | true => rw [if_pos rfl] at h ⊢; exact h1 h
  | false => rw [if_neg Bool.false_ne_true] at h ⊢; exact h2 h

/-! ### from one kind to the other -/
/-- a new list as data -/
def wDat (f : WL) : WE := fun env Q X => f env (fun ds => Q (.lst ds)) X
theorem DF.dat {e : Expr} {f : WL} (h : DF W G0 H0 E X e f) : DE W G0 H0 E X e (wDat f) := by
  obtain ⟨m, t, p, q⟩ := h
  refine ⟨fun env Q Q' X z w => m _ _ _ _ (fun ds => z _) w, t, p, fun env σ G H Q r w => q env σ G H Q r (m _ _ _ _ (fun ds z => ?_) w)⟩
  intro p xs G' H' s n a b rp
  have hm : ¬ W.mem p := n.1
  have sm : Same G' (upd G' p (.lst xs)) := same_new b
  refine z (.ref p) (upd G' p (.lst xs)) H' ⟨s.gok.show a b hm, s.le.trans sm, fun c o y => ?_, s.keep⟩ ?_
  · by_cases hc : c = p
    · subst hc; exact .inr n
    · rw [upd_ne hc] at y; exact s.new c o y
  · unfold rep
    exact ⟨p, xs, rfl, upd_same, reps_mono sm _ _ rp⟩
/-- a new list, to be read -/
theorem DF.rd {e : Expr} {f : WL} (h : DF W G0 H0 E X e f) : DLs W G0 H0 E X e f := by
  obtain ⟨m, t, p, q⟩ := h
  refine ⟨m, t, p, fun env σ G H Q r w => q env σ G H Q r (m _ _ _ _ (fun ds z => ?_) w)⟩
  intro p xs G' H' s n a b rp
  exact z (.ref p) G' H' s ⟨p, xs, rfl, a, n.1, rp⟩
/-- data that is a list, to be read -/
def wRd (f : WE) : WL := fun env Q X => f env (fun d => ∃ ds, d = .lst ds ∧ Q ds) X
theorem DE.rd {e : Expr} {f : WE} (h : DE W G0 H0 E X e f) : DLs W G0 H0 E X e (wRd f) := by
  obtain ⟨m, t, p, q⟩ := h
  refine ⟨fun env Q Q' X z w => m _ _ _ _ (fun d ⟨ds, e, k⟩ => ⟨ds, e, z _ k⟩) w, t, p, fun env σ G H Q r w => q env σ G H Q r (m _ _ _ _ (fun d z => ?_) w)⟩
  obtain ⟨ds, rfl, z⟩ := z
  exact fun v G' H' s rp => z v G' H' s (lrep.data s.gok rp)

/-! ### names, constants -/
def wVar (i : Nat) : WE := fun env Q _ => ∃ d, env[i]? = some (.dt d) ∧ Q d
theorem de_var {i : Nat} {x : Str} {pos : Pos} (h : PE X (.Name x pos) (tVar i)) : DE W G0 H0 E X (.Name x pos) (wVar i) := by
  refine ⟨fun env Q Q' X z ⟨d, e, w⟩ => ⟨d, e, z _ w⟩, _, h, fun env σ G H Q r ⟨d, e, w⟩ => ?_⟩
  obtain ⟨v, h1, h2⟩ := r.dt i d e
  exact ⟨v, h1, w v G H (.refl r.gok) h2⟩
/-- an owned list by its name, to be read -/
def wOwn (i : Nat) : WL := fun env Q _ => ∃ ds, env[i]? = some (.ow ds) ∧ Q ds
theorem dl_own {i : Nat} {x : Str} {pos : Pos} (h : PE X (.Name x pos) (tVar i)) : DLs W G0 H0 E X (.Name x pos) (wOwn i) := by
  refine ⟨fun env Q Q' X z ⟨d, e, w⟩ => ⟨d, e, z _ w⟩, _, h, fun env σ G H Q r ⟨ds, e, w⟩ => ?_⟩
  obtain ⟨p, xs, h1, h2, h3, h4, h5⟩ := r.ow i ds e
  exact ⟨.ref p, h1, w _ G H (.refl r.gok) ⟨p, xs, rfl, h2, h4.1, h5⟩⟩
def wC (d : D) : WE := fun _ Q _ => Q d
theorem de_const {e : Expr} {d : D} {v : V} (h : PE X e (tC v)) (hr : ∀ G, rep W.K G d v) : DE W G0 H0 E X e (wC d) :=
  ⟨fun env Q Q' X z w => z _ w, _, h, fun env σ G H Q r w => w v G H (.refl r.gok) (hr _)⟩
theorem de_int {i j pos} : DE W G0 H0 E X (.Constant (.int i) j pos) (wC (.int i)) := de_const pe_int fun _ => by unfold rep; rfl
theorem de_bl {b j pos} : DE W G0 H0 E X (.Constant (.bool b) j pos) (wC (.bl b)) := de_const pe_bl fun _ => by unfold rep; rfl
theorem de_non {j pos} : DE W G0 H0 E X (.Constant .none j pos) (wC .non) := de_const pe_non fun _ => by unfold rep; rfl
theorem de_str {x j pos} {s : List Nat} (h : x = zs s) : DE W G0 H0 E X (.Constant (.str x) j pos) (wC (.str s)) := de_const pe_str fun _ => by unfold rep; rw [h]

/-! ### two operands -/
structure Lift2 (W : Wd) (r : R2) (g : D → D → PD → Prop) : Prop where
  mono : ∀ a b (Q Q' : PD), (∀ d, Q d → Q' d) → g a b Q → g a b Q'
  run : ∀ G H x y a b Q, GOk W G H → rep W.K G a x → rep W.K G b y → g a b (QE W G H Q) → r x y H Q
def wOp2 (g : D → D → PD → Prop) (fa fb : WE) : WE := fun env Q X => fa env (fun a => fb env (fun b => g a b Q) X) X
theorem two {a b : Expr} {fa fb : WE} {g : D → D → PD → Prop} {r : R2} (ha : DE W G0 H0 E X a fa) (hb : DE W G0 H0 E X b fb) (l : Lift2 W r g) :
    Mono (wOp2 g fa fb) ∧ ∃ ta tb, PE X a ta ∧ PE X b tb ∧ ∀ env σ G H Q, RelS W G0 H0 env σ G H → wOp2 g fa fb env (QE W G H Q) (XOk W G0 H0 E) → tOp r ta tb σ H Q := by
  obtain ⟨ma, ta, pa, qa⟩ := ha
  obtain ⟨mb, tb, pb, qb⟩ := hb
  refine ⟨fun env Q Q' X z w => ma _ _ _ _ (fun a w => mb _ _ _ _ (fun b w => l.mono _ _ _ _ z w) w) w, ta, tb, pa, pb, fun env σ G H Q r w => ?_⟩
  refine qa env σ G H _ r (ma _ _ _ _ (fun a w => ?_) w)
  intro x G1 H1 s1 ra
  refine qb env σ G1 H1 _ (r.step s1) (mb _ _ _ _ (fun b w => ?_) w)
  intro y G2 H2 s2 rb
  exact l.run G2 H2 x y a b Q s2.gok (rep_mono s2.le _ _ ra) rb (l.mono _ _ _ _ (fun d h => QE.step s2 (QE.step s1 h)) w)
theorem de_op {op : Operator} {a b : Expr} {fa fb : WE} {g : D → D → PD → Prop} {r : R2} {pos : Pos} (ho : OpR X (binaryOp op) r) (l : Lift2 W r g) (ha : DE W G0 H0 E X a fa) (hb : DE W G0 H0 E X b fb) :
    DE W G0 H0 E X (.BinOp a op b pos) (wOp2 g fa fb) := by
  obtain ⟨m, ta, tb, pa, pb, q⟩ := two ha hb l
  exact ⟨m, _, pe_op ho pa pb, q⟩
theorem de_cmp {op : CmpOp} {a b : Expr} {fa fb : WE} {g : D → D → PD → Prop} {r : R2} {pos : Pos} (ho : OpR X (compareOp op) r) (l : Lift2 W r g) (ha : DE W G0 H0 E X a fa) (hb : DE W G0 H0 E X b fb) (hm : behindInMarks op b = false) :
    DE W G0 H0 E X (.Compare a [op] [b] pos) (wOp2 g fa fb) := by
  obtain ⟨m, ta, tb, pa, pb, q⟩ := two ha hb l
  exact ⟨m, _, pe_cmpR ho pa pb hm, q⟩
/-- a comparison's answer as a test -/
def wIs (f : WE) : WT := fun env Q X => f env (fun d => ∃ b, d = .bl b ∧ Q b) X
theorem wIs_mono {f : WE} (m : Mono f) : Mono (wIs f) := fun env Q Q' X z w => m _ _ _ _ (fun d ⟨b, e, k⟩ => ⟨b, e, z _ k⟩) w
theorem dt_cmp {op : CmpOp} {a b : Expr} {fa fb : WE} {g : D → D → PD → Prop} {r : R2} {pos : Pos} (ho : OpR X (compareOp op) r) (l : Lift2 W r g) (ha : DE W G0 H0 E X a fa) (hb : DE W G0 H0 E X b fb) (hm : behindInMarks op b = false) :
    DT W G0 H0 E X (.Compare a [op] [b] pos) (wIs (wOp2 g fa fb)) := by
  obtain ⟨m, ta, tb, pa, pb, q⟩ := two ha hb l
  refine ⟨wIs_mono m, _, pt_cmpR ho pa pb hm, fun env σ G H Q r w => ?_⟩
  refine q env σ G H _ r (m _ _ _ _ (fun d z => ?_) w)
  obtain ⟨b, rfl, z⟩ := z
  intro v G' H' s rp
  unfold rep at rp
  exact ⟨b, rp, z G' H' s⟩
/-- a value that is True or False, as a test -/
theorem DE.val {e : Expr} {f : WE} (h : DE W G0 H0 E X e f) (he : ∀ whole, isTrue e X.env whole = (do let v ← whole; standAt e.pos; holding [v] (truthy v)) := by intro _; rfl) : DT W G0 H0 E X e (wIs f) := by
  obtain ⟨m, t, p, q⟩ := h
  refine ⟨wIs_mono m, _, pt_val p he, fun env σ G H Q r w => ?_⟩
  refine q env σ G H _ r (m _ _ _ _ (fun d z => ?_) w)
  obtain ⟨b, rfl, z⟩ := z
  intro v G' H' s rp
  unfold rep at rp
  exact ⟨b, rp, z G' H' s⟩

/-! ### three operands: a < b < c -/
def wChain (g g' : D → D → PD → Prop) (fa fb fc : WE) : WE := fun env Q X => fa env (fun a => fb env (fun b => g a b fun z => ∃ k, z = .bl k ∧ if k = true then fc env (fun c => g' b c Q) X else Q (.bl false)) X) X
theorem chain {a b c : Expr} {fa fb fc : WE} {g g' : D → D → PD → Prop} {r r' : R2} (ha : DE W G0 H0 E X a fa) (hb : DE W G0 H0 E X b fb) (hc : DE W G0 H0 E X c fc) (l : Lift2 W r g) (l' : Lift2 W r' g') :
    Mono (wChain g g' fa fb fc) ∧ ∃ ta tb tc, PE X a ta ∧ PE X b tb ∧ PE X c tc ∧ ∀ env σ G H Q, RelS W G0 H0 env σ G H → wChain g g' fa fb fc env (QE W G H Q) (XOk W G0 H0 E) → tChain r r' ta tb tc σ H Q := by
  obtain ⟨ma, ta, pa, qa⟩ := ha
  obtain ⟨mb, tb, pb, qb⟩ := hb
  obtain ⟨mc, tc, pc, qc⟩ := hc
  refine ⟨fun env Q Q' X z w => ma _ _ _ _ (fun a w => mb _ _ _ _ (fun b w => l.mono _ _ _ _ (fun d ⟨k, e, w⟩ => ⟨k, e, ite_mono (mc _ _ _ _ fun c w => l'.mono _ _ _ _ z w) (z _) w⟩) w) w) w, ta, tb, tc, pa, pb, pc, fun env σ G H Q r w => ?_⟩
  · refine qa env σ G H _ r (ma _ _ _ _ (fun a w => ?_) w)
    intro x G1 H1 s1 ra
    have r1 := r.step s1
    refine qb env σ G1 H1 _ r1 (mb _ _ _ _ (fun b w => ?_) w)
    intro y G2 H2 s2 rb
    have r2 := r1.step s2
    refine l.run G2 H2 x y a b _ s2.gok (rep_mono s2.le _ _ ra) rb (l.mono _ _ _ _ (fun d w => ?_) w)
    obtain ⟨k, rfl, w⟩ := w
    intro v G3 H3 s3 rp
    have r3 := r2.step s3
    unfold rep at rp
    refine ⟨k, rp, ?_⟩
    cases k with
    | true =>
      rw [if_pos rfl] at w ⊢
      refine qc env σ G3 H3 _ r3 (mc _ _ _ _ (fun c w => ?_) w)
      intro z G4 H4 s4 rc
      exact l'.run G4 H4 y z b c Q s4.gok (rep_mono s4.le _ _ (rep_mono s3.le _ _ rb)) rc (l'.mono _ _ _ _ (fun d h => QE.step s4 (QE.step s3 (QE.step s2 (QE.step s1 h)))) w)
    | false =>
      rw [if_neg Bool.false_ne_true] at w ⊢
      exact w (.bl false) G3 H3 (s1.trans (s2.trans s3)) (by unfold rep; rfl)
theorem de_chain {op op' : CmpOp} {a b c : Expr} {fa fb fc : WE} {g g' : D → D → PD → Prop} {r r' : R2} {pos : Pos} (ho : OpR X (compareOp op) r) (l : Lift2 W r g) (ho' : OpR X (compareOp op') r') (l' : Lift2 W r' g')
    (ha : DE W G0 H0 E X a fa) (hb : DE W G0 H0 E X b fb) (hc : DE W G0 H0 E X c fc) (hm : lastMarks [op, op'] [b, c] = false := by with_unfolding_all rfl) : DE W G0 H0 E X (.Compare a [op, op'] [b, c] pos) (wChain g g' fa fb fc) := by
  obtain ⟨m, ta, tb, tc, pa, pb, pc, q⟩ := chain ha hb hc l l'
  exact ⟨m, _, pe_chain ho ho' pa pb pc hm, q⟩
theorem dt_chain {op op' : CmpOp} {a b c : Expr} {fa fb fc : WE} {g g' : D → D → PD → Prop} {r r' : R2} {pos : Pos} (ho : OpR X (compareOp op) r) (l : Lift2 W r g) (ho' : OpR X (compareOp op') r') (l' : Lift2 W r' g')
    (ha : DE W G0 H0 E X a fa) (hb : DE W G0 H0 E X b fb) (hc : DE W G0 H0 E X c fc) (hm : lastMarks [op, op'] [b, c] = false := by with_unfolding_all rfl) : DT W G0 H0 E X (.Compare a [op, op'] [b, c] pos) (wIs (wChain g g' fa fb fc)) := by
  obtain ⟨m, ta, tb, tc, pa, pb, pc, q⟩ := chain ha hb hc l l'
  refine ⟨wIs_mono m, _, pt_chain ho ho' pa pb pc hm, fun env σ G H Q r w => ?_⟩
  refine q env σ G H _ r (m _ _ _ _ (fun d z => ?_) w)
  obtain ⟨b, rfl, z⟩ := z
  intro v G' H' s rp
  unfold rep at rp
  exact ⟨b, rp, z G' H' s⟩

/-! ### one operand -/
structure Lift1 (W : Wd) (r : V → Hp → VK → Prop) (g : D → PD → Prop) : Prop where
  mono : ∀ a (Q Q' : PD), (∀ d, Q d → Q' d) → g a Q → g a Q'
  run : ∀ G H x a Q, GOk W G H → rep W.K G a x → g a (QE W G H Q) → r x H Q
def wOp1 (g : D → PD → Prop) (fa : WE) : WE := fun env Q X => fa env (fun a => g a Q) X
theorem de_un {op : UnaryOp} {a : Expr} {fa : WE} {g : D → PD → Prop} {r : V → Hp → VK → Prop} {pos : Pos} (ho : UnR X (unaryOp op) r) (l : Lift1 W r g) (ha : DE W G0 H0 E X a fa) :
    DE W G0 H0 E X (.UnaryOp op a pos) (wOp1 g fa) := by
  obtain ⟨ma, ta, pa, qa⟩ := ha
  refine ⟨fun env Q Q' X z w => ma _ _ _ _ (fun a w => l.mono _ _ _ z w) w, _, pe_un ho pa, fun env σ G H Q r w => ?_⟩
  refine qa env σ G H _ r (ma _ _ _ _ (fun a w => ?_) w)
  intro x G1 H1 s1 ra
  exact l.run G1 H1 x a Q s1.gok ra (l.mono _ _ _ (fun d h => QE.step s1 h) w)

/-! ### and, or, not, if -/
def wAndT (f g : WT) : WT := fun env Q X => f env (fun c => if c = true then g env Q X else Q false) X
def wOrT (f g : WT) : WT := fun env Q X => f env (fun c => if c = true then Q true else g env Q X) X
def wNotT (f : WT) : WT := fun env Q X => f env (fun c => Q (!c)) X
theorem dw_one1 {a : Expr} {f : WT} {pos : Pos} (h : DT W G0 H0 E X a f) : DW W G0 H0 E X (.BoolOp .And [a] pos) f := by
  obtain ⟨m, t, p, q⟩ := h
  exact ⟨m, t, pw_and1 p, q⟩
theorem dw_one2 {a : Expr} {f : WT} {pos : Pos} (h : DT W G0 H0 E X a f) : DW W G0 H0 E X (.BoolOp .Or [a] pos) f := by
  obtain ⟨m, t, p, q⟩ := h
  exact ⟨m, t, pw_or1 p, q⟩
theorem DW.t {e : Expr} {f : WT} (h : DW W G0 H0 E X e f) : DT W G0 H0 E X e f := by
  obtain ⟨m, t, p, q⟩ := h
  exact ⟨m, t, p.pt, q⟩
theorem dw_and {a b : Expr} {rest : List Expr} {f g : WT} {pos : Pos} (ha : DT W G0 H0 E X a f) (hb : DW W G0 H0 E X (.BoolOp .And (b :: rest) pos) g) : DW W G0 H0 E X (.BoolOp .And (a :: b :: rest) pos) (wAndT f g) := by
  obtain ⟨ma, ta, pa, qa⟩ := ha
  obtain ⟨mb, tb, pb, qb⟩ := hb
  refine ⟨fun env Q Q' X z w => ma _ _ _ _ (fun c => ite_mono (mb _ _ _ _ z) (z _)) w, _, pw_and pa pb, fun env σ G H Q r w => ?_⟩
  · refine qa env σ G H _ r (ma _ _ _ _ (fun c w => ?_) w)
    intro G1 H1 s1
    cases c with
    | true =>
      rw [if_pos rfl] at w ⊢
      exact qb env σ G1 H1 _ (r.step s1) (mb _ _ _ _ (fun b h => QT.step s1 h) w)
    | false => rw [if_neg Bool.false_ne_true] at w ⊢; exact w G1 H1 s1
theorem dw_or {a b : Expr} {rest : List Expr} {f g : WT} {pos : Pos} (ha : DT W G0 H0 E X a f) (hb : DW W G0 H0 E X (.BoolOp .Or (b :: rest) pos) g) : DW W G0 H0 E X (.BoolOp .Or (a :: b :: rest) pos) (wOrT f g) := by
  obtain ⟨ma, ta, pa, qa⟩ := ha
  obtain ⟨mb, tb, pb, qb⟩ := hb
  refine ⟨fun env Q Q' X z w => ma _ _ _ _ (fun c => ite_mono (z _) (mb _ _ _ _ z)) w, _, pw_or pa pb, fun env σ G H Q r w => ?_⟩
  · refine qa env σ G H _ r (ma _ _ _ _ (fun c w => ?_) w)
    intro G1 H1 s1
    cases c with
    | true => rw [if_pos rfl] at w ⊢; exact w G1 H1 s1
    | false =>
      rw [if_neg Bool.false_ne_true] at w ⊢
      exact qb env σ G1 H1 _ (r.step s1) (mb _ _ _ _ (fun b h => QT.step s1 h) w)
theorem dt_not {a : Expr} {f : WT} {pos : Pos} (ha : DT W G0 H0 E X a f) : DT W G0 H0 E X (.UnaryOp .Not a pos) (wNotT f) := by
  obtain ⟨ma, ta, pa, qa⟩ := ha
  refine ⟨fun env Q Q' X z w => ma _ _ _ _ (fun c w => z _ w) w, _, pt_not pa, fun env σ G H Q r w => ?_⟩
  exact qa env σ G H _ r w
/-- as values: all but the last are truths -/
def wAndV (f g : WE) : WE := fun env Q X => f env (fun d => ∃ c, d = .bl c ∧ if c = true then g env Q X else Q (.bl false)) X
def wOrV (f g : WE) : WE := fun env Q X => f env (fun d => ∃ c, d = .bl c ∧ if c = true then Q (.bl true) else g env Q X) X
def wNotV (f : WE) : WE := fun env Q X => f env (fun d => ∃ c, d = .bl c ∧ Q (.bl (!c))) X
theorem de_one {op : BoolOp} {a : Expr} {f : WE} {pos : Pos} (h : DE W G0 H0 E X a f) : DE W G0 H0 E X (.BoolOp op [a] pos) f := by
  obtain ⟨m, t, p, q⟩ := h
  exact ⟨m, t, pe_one p, q⟩
theorem rep_bl {K : PySem.W.Frag} {b : Bool} {v : V} (h : rep K G (.bl b) v) : v = .bl b := by unfold rep at h; exact h
theorem rep_bl' {K : PySem.W.Frag} {b : Bool} : rep K G (.bl b) (.bl b) := by unfold rep; rfl
theorem de_and {a b : Expr} {rest : List Expr} {f g : WE} {pos : Pos} (ha : DE W G0 H0 E X a f) (hb : DE W G0 H0 E X (.BoolOp .And (b :: rest) pos) g) : DE W G0 H0 E X (.BoolOp .And (a :: b :: rest) pos) (wAndV f g) := by
  obtain ⟨ma, ta, pa, qa⟩ := ha
  obtain ⟨mb, tb, pb, qb⟩ := hb
  refine ⟨fun env Q Q' X z w => ma _ _ _ _ (fun d ⟨c, e, w⟩ => ⟨c, e, ite_mono (mb _ _ _ _ z) (z _) w⟩) w, _, pe_and pa pb, fun env σ G H Q r w => ?_⟩
  · refine qa env σ G H _ r (ma _ _ _ _ (fun d w => ?_) w)
    obtain ⟨c, rfl, w⟩ := w
    intro v G1 H1 s1 rp
    refine ⟨c, rep_bl rp, ?_⟩
    cases c with
    | true =>
      rw [if_pos rfl] at w ⊢
      exact qb env σ G1 H1 _ (r.step s1) (mb _ _ _ _ (fun b h => QE.step s1 h) w)
    | false => rw [if_neg Bool.false_ne_true] at w ⊢; exact w _ G1 H1 s1 rep_bl'
theorem de_or {a b : Expr} {rest : List Expr} {f g : WE} {pos : Pos} (ha : DE W G0 H0 E X a f) (hb : DE W G0 H0 E X (.BoolOp .Or (b :: rest) pos) g) : DE W G0 H0 E X (.BoolOp .Or (a :: b :: rest) pos) (wOrV f g) := by
  obtain ⟨ma, ta, pa, qa⟩ := ha
  obtain ⟨mb, tb, pb, qb⟩ := hb
  refine ⟨fun env Q Q' X z w => ma _ _ _ _ (fun d ⟨c, e, w⟩ => ⟨c, e, ite_mono (z _) (mb _ _ _ _ z) w⟩) w, _, pe_or pa pb, fun env σ G H Q r w => ?_⟩
  · refine qa env σ G H _ r (ma _ _ _ _ (fun d w => ?_) w)
    obtain ⟨c, rfl, w⟩ := w
    intro v G1 H1 s1 rp
    refine ⟨c, rep_bl rp, ?_⟩
    cases c with
    | true => rw [if_pos rfl] at w ⊢; exact w _ G1 H1 s1 rep_bl'
    | false =>
      rw [if_neg Bool.false_ne_true] at w ⊢
      exact qb env σ G1 H1 _ (r.step s1) (mb _ _ _ _ (fun b h => QE.step s1 h) w)
theorem de_not {a : Expr} {f : WE} {pos : Pos} (ha : DE W G0 H0 E X a f) : DE W G0 H0 E X (.UnaryOp .Not a pos) (wNotV f) := by
  obtain ⟨ma, ta, pa, qa⟩ := ha
  refine ⟨fun env Q Q' X z w => ma _ _ _ _ (fun d ⟨c, e, w⟩ => ⟨c, e, z _ w⟩) w, _, pe_not pa, fun env σ G H Q r w => ?_⟩
  refine qa env σ G H _ r (ma _ _ _ _ (fun d w => ?_) w)
  obtain ⟨c, rfl, w⟩ := w
  intro v G1 H1 s1 rp
  exact ⟨c, rep_bl rp, w _ G1 H1 s1 rep_bl'⟩
def wIfE (c : WT) (f g : WE) : WE := fun env Q X => c env (fun k => if k = true then f env Q X else g env Q X) X
theorem de_ifExp {c a b : Expr} {fc : WT} {f g : WE} {pos : Pos} (hc : DT W G0 H0 E X c fc) (ha : DE W G0 H0 E X a f) (hb : DE W G0 H0 E X b g) : DE W G0 H0 E X (.IfExp c a b pos) (wIfE fc f g) := by
  obtain ⟨mc, tc, pc, qc⟩ := hc
  obtain ⟨ma, ta, pa, qa⟩ := ha
  obtain ⟨mb, tb, pb, qb⟩ := hb
  refine ⟨fun env Q Q' X z w => mc _ _ _ _ (fun c => ite_mono (ma _ _ _ _ z) (mb _ _ _ _ z)) w, _, pe_ifExp pc pa pb, fun env σ G H Q r w => ?_⟩
  · refine qc env σ G H _ r (mc _ _ _ _ (fun c w => ?_) w)
    intro G1 H1 s1
    cases c with
    | true =>
      rw [if_pos rfl] at w ⊢
      exact qa env σ G1 H1 _ (r.step s1) (ma _ _ _ _ (fun b h => QE.step s1 h) w)
    | false =>
      rw [if_neg Bool.false_ne_true] at w ⊢
      exact qb env σ G1 H1 _ (r.step s1) (mb _ _ _ _ (fun b h => QE.step s1 h) w)

/-! ### argument lists, displays -/
abbrev wNil : WL := fun _ Q _ => Q []
def wCons (f : WE) (g : WL) : WL := fun env Q X => f env (fun d => g env (fun ds => Q (d :: ds)) X) X
theorem da_nil : DA W G0 H0 E X [] wNil := ⟨fun env Q Q' X z w => z _ w, fun env Q Y w => ⟨rfl, w⟩, _, pa_nil, fun env σ G H Q r w => w [] G H (.refl r.gok) .nil⟩
theorem da_cons {e : Expr} {es : List Expr} {f : WE} {g : WL} (he : DE W G0 H0 E X e f) (hs : DA W G0 H0 E X es g) (hst : starEach (e :: es) X.env = (false, eval e X.env) :: starEach es X.env := by rfl) : DA W G0 H0 E X (e :: es) (wCons f g) := by
  obtain ⟨ma, ta, pa, qa⟩ := he
  obtain ⟨mb, lb, tb, pb, qb⟩ := hs
  refine ⟨fun env Q Q' X z w => ma _ _ _ _ (fun d w => mb _ _ _ _ (fun ds w => z _ w) w) w, fun env Q Y w => ma _ _ _ _ (fun d w => mb _ _ _ _ (fun ds ⟨l, w⟩ => ⟨by simp [l], w⟩) (lb _ _ _ w)) w, _, pa_cons pa pb hst, fun env σ G H Q r w => ?_⟩
  refine qa env σ G H _ r (ma _ _ _ _ (fun d w => ?_) w)
  intro v G1 H1 s1 rp
  refine qb env σ G1 H1 _ (r.step s1) (mb _ _ _ _ (fun ds w => ?_) w)
  intro vs G2 H2 s2 rps
  exact w _ G2 H2 (s1.trans s2) (.cons (rep_mono s2.le _ _ rp) rps)
/-- an owned list among the arguments: read, and what is told of it hangs on no heap: for a call that gives a plain value -/
def wTup (g : WL) : WE := fun env Q X => g env (fun ds => ds.length ≤ sizeLine ∧ Q (.tup ds)) X
theorem de_tup {es : List Expr} {g : WL} {x1 pos} (h : DA W G0 H0 E X es g) : DE W G0 H0 E X (.Tuple es x1 pos) (wTup g) := by
  obtain ⟨m, _, t, p, q⟩ := h
  refine ⟨fun env Q Q' X z w => m _ _ _ _ (fun d ⟨l, w⟩ => ⟨l, z _ w⟩) w, _, pe_tup p, fun env σ G H Q r w => ?_⟩
  refine q env σ G H _ r (m _ _ _ _ (fun ds w => ?_) w)
  intro vs G1 H1 s1 rp
  refine ⟨by rw [rp.length]; exact w.1, fun p hp => w.2 _ _ _ (s1.trans (Gst.alloc s1.gok _ hp)) ?_⟩
  unfold rep
  exact ⟨p, vs, rfl, .inl (.inl upd_same), reps_mono (same_new (s1.gok.nn hp)) _ _ rp⟩
def wLst (g : WL) : WL := fun env Q X => g env (fun ds => ds.length ≤ sizeLine ∧ Q ds) X
theorem df_lst {es : List Expr} {g : WL} {pos} (h : DA W G0 H0 E X es g) : DF W G0 H0 E X (.List es pos) (wLst g) := by
  obtain ⟨m, _, t, p, q⟩ := h
  refine ⟨fun env Q Q' X z w => m _ _ _ _ (fun d ⟨l, w⟩ => ⟨l, z _ w⟩) w, _, pe_lst p, fun env σ G H Q r w => ?_⟩
  refine q env σ G H _ r (m _ _ _ _ (fun ds w => ?_) w)
  intro vs G1 H1 s1 rp
  refine ⟨by rw [rp.length]; exact w.1, fun p hp => ?_⟩
  exact w.2 p vs _ _ (s1.trans (Gst.hid s1.gok _ hp)) (s1.frn hp) upd_same (s1.gok.nn hp) rp
theorem de_dict0 {pos} : DE W G0 H0 E X (.Dict [] [] pos) (wC (.dct [] [])) := by
  refine ⟨fun env Q Q' X z w => z _ w, _, pe_dnewK, fun env σ G H Q r w p hp => ?_⟩
  refine w _ _ _ (Gst.alloc r.gok _ hp) ?_
  unfold rep
  exact ⟨p, [], rfl, upd_same, rfl, .nil⟩
/-- an owned list is read as data by an expression whose value hangs on no heap -/
def wBor (i : Nat) (f : WE) : WE := fun env Q X => ∃ ds, env[i]? = some (.ow ds) ∧ f (env.set i (.dt (.lst ds))) (fun d => scal d = true ∧ Q d) X
theorem DE.bor (i : Nat) {e : Expr} {f : WE} (h : DE W G0 H0 E X e f) : DE W G0 H0 E X e (wBor i f) := by
  obtain ⟨m, t, p, q⟩ := h
  refine ⟨fun env Q Q' X z ⟨ds, e, w⟩ => ⟨ds, e, m _ _ _ _ (fun d ⟨s, w⟩ => ⟨s, z _ w⟩) w⟩, t, p, fun env σ G H Q r w => ?_⟩
  obtain ⟨ds, e, w⟩ := w
  obtain ⟨a, xs, h1, h2, h3, h4, h5⟩ := r.ow i ds e
  obtain ⟨r', sm⟩ := r.freeze e h1 h2
  refine q _ σ _ H Q r' (m _ _ _ _ (fun d w => ?_) w)
  intro v G' H' s rp
  refine w.2 v G H' ⟨⟨(sm.trans s.le).trans s.gok.le, s.gok.w, r.gok.nm, r.gok.tb⟩, Same.refl _, fun a o z => .inl z, s.keep⟩ (rep_scal rp w.1)
end
end DL
/-! statements, loops, comprehensions, calls, defs -/
namespace DL
open PySem PySem.Spec PyProof.Rows L2

section
variable {W : Wd} {G0 H0 G G' H H' : Hp} {E : XK} {X : Cx} {k : Nat} {env : Env1} {σ : L2.St}

/-! ### statements -/
def wNext : WS := fun env D _ => D.nx env
def wSeq (f g : WS) : WS := fun env D X => f env { D with nx := fun e => g e D X } X
theorem dss_nil : DSs W G0 H0 E X [] wNext := ⟨fun env D D' X z w => z.nx _ w, _, pss_nil, fun env σ G H Dv r w => w σ G H (Same.refl _) r⟩
theorem dss_cons {st : Stmt} {rest : List Stmt} {f g : WS} (h1 : DS W G0 H0 E X st f) (h2 : DSs W G0 H0 E X rest g) : DSs W G0 H0 E X (st :: rest) (wSeq f g) := by
  obtain ⟨m1, t1, p1, q1⟩ := h1
  obtain ⟨m2, t2, p2, q2⟩ := h2
  refine ⟨fun env D D' X z w => m1 _ { D with nx := fun e => g e D X } { D' with nx := fun e => g e D' X } _ ⟨fun e w => m2 _ _ _ _ z w, z.rt, z.bk, z.ct⟩ w, _, pss_cons p1 p2, fun env σ G H Dv r w => ?_⟩
  refine q1 env σ G H _ r (m1 _ { dnOf W G0 H0 G Dv with nx := fun e => g e (dnOf W G0 H0 G Dv) (XOk W G0 H0 E) } _ _ ⟨fun e w => ?_, fun _ h => h, fun _ h => h, fun _ h => h⟩ w)
  intro σ1 G1 H1 s1 r1
  exact q2 e σ1 G1 H1 Dv r1 (m2 _ _ _ _ (dnOf_le s1) w)
theorem dss_one {st : Stmt} {f : WS} (h1 : DS W G0 H0 E X st f) : DSs W G0 H0 E X [st] f := by
  obtain ⟨m1, t1, p1, q1⟩ := h1
  exact ⟨m1, _, pss_one p1, q1⟩
/-- a pseudo statement: the list of a slot becomes data -/
def wFrz (i : Nat) (f : WS) : WS := fun env D X => ∃ ds, env[i]? = some (.ow ds) ∧ f (env.set i (.dt (.lst ds))) D X
theorem dss_frz (i : Nat) {sts : List Stmt} {f : WS} (h : DSs W G0 H0 E X sts f) : DSs W G0 H0 E X sts (wFrz i f) := by
  obtain ⟨m, t, p, q⟩ := h
  refine ⟨fun env D D' X z ⟨ds, e, w⟩ => ⟨ds, e, m _ _ _ _ z w⟩, t, p, fun env σ G H Dv r w => ?_⟩
  obtain ⟨ds, e, w⟩ := w
  obtain ⟨a, xs, h1, h2, h3, h4, h5⟩ := r.ow i ds e
  obtain ⟨r', sm⟩ := r.freeze e h1 h2
  exact q _ σ _ H Dv r' (m _ _ _ _ (dnOf_le sm) w)
theorem ds_pass {pos} : DS W G0 H0 E X (.Pass pos) wNext := ⟨fun env D D' X z w => z.nx _ w, _, ps_pass, fun env σ G H Dv r w => w σ G H (Same.refl _) r⟩
def wBreak : WS := fun env D _ => D.bk env
def wCont : WS := fun env D _ => D.ct env
theorem ds_break {pos} : DS W G0 H0 E X (.Break pos) wBreak := ⟨fun env D D' X z w => z.bk _ w, _, ps_break, fun env σ G H Dv r w => w σ G H (Same.refl _) r⟩
theorem ds_continue {pos} : DS W G0 H0 E X (.Continue pos) wCont := ⟨fun env D D' X z w => z.ct _ w, _, ps_continue, fun env σ G H Dv r w => w σ G H (Same.refl _) r⟩
def wExpr (f : WE) : WS := fun env D X => f env (fun _ => D.nx env) X
theorem ds_expr {e : Expr} {f : WE} {pos : Pos} (he : DE W G0 H0 E X e f) (hs : swapsWith e none pos.line X.env = pure false := by rfl) : DS W G0 H0 E X (.Expr e pos) (wExpr f) := by
  obtain ⟨m, t, p, q⟩ := he
  refine ⟨fun env D D' X z w => m _ _ _ _ (fun _ w => z.nx _ w) w, _, ps_expr p hs, fun env σ G H Dv r w => ?_⟩
  refine q env σ G H _ r (m _ _ _ _ (fun d w => ?_) w)
  intro v G1 H1 s1 rp
  exact w σ G1 H1 s1.le (r.step s1)
def wRet (f : WE) : WS := fun env D X => f env (fun d => D.rt (.dt d)) X
theorem ds_ret {e : Expr} {f : WE} {pos : Pos} (he : DE W G0 H0 E X e f) : DS W G0 H0 E X (.Return (some e) pos) (wRet f) := by
  obtain ⟨m, t, p, q⟩ := he
  refine ⟨fun env D D' X z w => m _ _ _ _ (fun _ w => z.rt _ w) w, _, ps_ret p, fun env σ G H Dv r w => ?_⟩
  refine q env σ G H _ r (m _ _ _ _ (fun d w => ?_) w)
  intro v G1 H1 s1 rp
  exact w v G1 H1 s1.le (r.step s1).st rp
def wRetF (f : WL) : WS := fun env D X => f env (fun ds => D.rt (.fr ds)) X
theorem ds_retF {e : Expr} {f : WL} {pos : Pos} (he : DF W G0 H0 E X e f) : DS W G0 H0 E X (.Return (some e) pos) (wRetF f) := by
  obtain ⟨m, t, p, q⟩ := he
  refine ⟨fun env D D' X z w => m _ _ _ _ (fun _ w => z.rt _ w) w, _, ps_ret p, fun env σ G H Dv r w => ?_⟩
  refine q env σ G H _ r (m _ _ _ _ (fun d w => ?_) w)
  intro p xs G1 H1 s1 n a b rp
  exact w (.ref p) G1 H1 s1.le (r.step s1).st ⟨p, xs, rfl, a, b, r.st.fr n, rp⟩
def wRetOwn (i : Nat) : WS := fun env D _ => ∃ ds, env[i]? = some (.ow ds) ∧ D.rt (.fr ds)
theorem ds_retOwn {i : Nat} {x : Str} {p pos : Pos} (h : PE X (.Name x p) (tVar i)) : DS W G0 H0 E X (.Return (some (.Name x p)) pos) (wRetOwn i) := by
  refine ⟨fun env D D' X z ⟨ds, e, w⟩ => ⟨ds, e, z.rt _ w⟩, _, ps_ret h, fun env σ G H Dv r ⟨ds, e, w⟩ => ?_⟩
  obtain ⟨a, xs, h1, h2, h3, h4, h5⟩ := r.ow i ds e
  exact ⟨.ref a, h1, w (.ref a) G H (Same.refl _) r.st ⟨a, xs, rfl, h2, h3, h4, h5⟩⟩
def wRetN : WS := fun _ D _ => D.rt (.dt .non)
theorem ds_retN {pos : Pos} : DS W G0 H0 E X (.Return none pos) wRetN :=
  ⟨fun env D D' X z w => z.rt _ w, _, ps_retN, fun env σ G H Dv r w => w .non G H (Same.refl _) r.st (by unfold repR rep; rfl)⟩
def wIf (c : WT) (f g : WS) : WS := fun env D X => c env (fun b => if b = true then f env D X else g env D X) X
theorem ds_if {c : Expr} {a b : List Stmt} {fc : WT} {f g : WS} {pos : Pos} (hc : DT W G0 H0 E X c fc) (ha : DSs W G0 H0 E X a f) (hb : DSs W G0 H0 E X b g) : DS W G0 H0 E X (.If c a b pos) (wIf fc f g) := by
  obtain ⟨mc, tc, pc, qc⟩ := hc
  obtain ⟨ma, ta, pa, qa⟩ := ha
  obtain ⟨mb, tb, pb, qb⟩ := hb
  refine ⟨fun env D D' X z w => mc _ _ _ _ (fun c => ite_mono (ma _ _ _ _ z) (mb _ _ _ _ z)) w, _, ps_if pc pa pb, fun env σ G H Dv r w => ?_⟩
  refine qc env σ G H _ r (mc _ _ _ _ (fun c w => ?_) w)
  intro G1 H1 s1
  exact ite_mono (fun w => qa env σ G1 H1 Dv (r.step s1) (ma _ _ _ _ (dnOf_le s1.le) w)) (fun w => qb env σ G1 H1 Dv (r.step s1) (mb _ _ _ _ (dnOf_le s1.le) w)) w

/-! ### stores -/
/-- a target: what it makes of the slots; only the slots js change -/
abbrev WG := Env1 → D → (Env1 → Prop) → Prop
theorem wipe_set {σ : L2.St} {i : Nat} {v : Option V} : ∀ {vs : List Nat}, i ∈ vs → wipe (σ.set i v) vs = wipe σ vs
  | [], h => by simp at h
  | j :: vs, h => by
    show (wipe (σ.set i v) vs).set j none = (wipe σ vs).set j none
    by_cases hi : i ∈ vs
    · rw [wipe_set hi]
    · have e : i = j := by
        rcases List.mem_cons.mp h with h | h
        · exact h
        · exact absurd h hi
      subst e
      have : ∀ (us : List Nat), i ∉ us → wipe (σ.set i v) us = (wipe σ us).set i v := fun us => by
        induction us with
        | nil => intro _; rfl
        | cons u us ih =>
          intro hu
          show (wipe (σ.set i v) us).set u none = ((wipe σ us).set u none).set i v
          rw [ih (fun z => hu (List.mem_cons_of_mem _ z)), List.set_comm _ _ (fun z => hu (by rw [z]; exact List.mem_cons_self))]
      rw [this vs hi, List.set_set]
def presG {α : Type} (js : List Nat) (w : Env1 → α → (Env1 → Prop) → Prop) : Prop := ∀ env d (Q : Env1 → Prop), w env d Q → w env d (fun e => (∀ (a : Nat) ds, e[a]? = some (.ow ds) → env[a]? = some (.ow ds) ∧ a ∉ js) ∧ Q e)
structure DG (W : Wd) (G0 H0 : Hp) (X : Cx) (tg : Expr) (js : List Nat) (w : WG) : Prop where
  mono : ∀ env d (Q Q' : Env1 → Prop), (∀ e, Q e → Q' e) → w env d Q → w env d Q'
  pres : presG js w
  ex : ∃ g, PG X tg g ∧ ∀ env σ G H v d (Q : L2.St → Hp → Prop), RelS W G0 H0 env σ G H → rep W.K G d v →
    w env d (fun env' => ∀ σ', RelS W G0 H0 env' σ' G H → (∀ vs : List Nat, (∀ j ∈ js, j ∈ vs) → wipe σ' vs = wipe σ vs) → Q σ' H) → g v σ H Q
def wN (i : Nat) : WG := fun env d Q => Q (env.set i (.dt d))
theorem dg_name {i : Nat} {x : Str} {pos : Pos} (h : PG X (.Name x pos) (gName i)) : DG W G0 H0 X (.Name x pos) [i] (wN i) :=
  ⟨fun env d Q Q' z w => z _ w, fun env d Q w => ⟨fun a ds e => by
    by_cases ha : i = a
    · subst ha
      have hl : i < env.length := by
        have := (List.getElem?_eq_some_iff.mp e).1
        rwa [List.length_set] at this
      rw [List.getElem?_set_self hl] at e
      cases e
    · rw [List.getElem?_set_ne ha] at e
      exact ⟨e, fun z => ha (List.mem_singleton.mp z).symm⟩, w⟩, _, h, fun env σ G H v d Q r rp w => w _ (r.set_dt rp) fun vs hv => wipe_set (hv i (by simp))⟩
/-- the items of a tuple into several targets -/
abbrev WGs := Env1 → List D → (Env1 → Prop) → Prop
structure DGs (W : Wd) (G0 H0 : Hp) (X : Cx) (ts : List Expr) (js : List Nat) (w : WGs) : Prop where
  mono : ∀ env d (Q Q' : Env1 → Prop), (∀ e, Q e → Q' e) → w env d Q → w env d Q'
  pres : presG js w
  ex : ∃ g, PGs X ts g ∧ ∀ env σ G H vs ds (Q : L2.St → Hp → Prop), RelS W G0 H0 env σ G H → reps W.K G ds vs →
    w env ds (fun env' => ∀ σ', RelS W G0 H0 env' σ' G H → (∀ us : List Nat, (∀ j ∈ js, j ∈ us) → wipe σ' us = wipe σ us) → Q σ' H) → g vs σ H Q
def wGNil : WGs := fun env ds Q => ds = [] ∧ Q env
def wGCons (w : WG) (u : WGs) : WGs := fun env ds Q => ∃ d r, ds = d :: r ∧ w env d (fun env' => u env' r Q)
theorem dgs_nil : DGs W G0 H0 X [] [] wGNil :=
  ⟨fun env d Q Q' z ⟨e, w⟩ => ⟨e, z _ w⟩, fun env d Q ⟨e, w⟩ => ⟨e, fun a ds h => ⟨h, by simp⟩, w⟩, _, pgs_nil, fun env σ G H vs ds Q r rp ⟨e, w⟩ => ⟨by subst e; exact rp.nil_eq, w σ r fun _ _ => rfl⟩⟩
theorem dgs_cons {t : Expr} {ts : List Expr} {js ks : List Nat} {w : WG} {u : WGs} (h1 : DG W G0 H0 X t js w) (h2 : DGs W G0 H0 X ts ks u) (hs : (assignEach (t :: ts) X.env).map (·.2) = assign t X.env :: (assignEach ts X.env).map (·.2) := by rfl) : DGs W G0 H0 X (t :: ts) (js ++ ks) (wGCons w u) := by
  obtain ⟨m1, e1, g1, p1, q1⟩ := h1
  obtain ⟨m2, e2, g2, p2, q2⟩ := h2
  refine ⟨fun env ds Q Q' z ⟨d, r, e, w⟩ => ⟨d, r, e, m1 _ _ _ _ (fun e w => m2 _ _ _ _ z w) w⟩, fun env ds Q ⟨d, r, e, w⟩ => ⟨d, r, e, m1 _ _ _ _ (fun e ⟨h1, w⟩ => m2 _ _ _ _ (fun e' ⟨h2, w⟩ => ⟨fun a ds h => ⟨(h1 a ds (h2 a ds h).1).1, fun z => (List.mem_append.mp z).elim (h1 a ds (h2 a ds h).1).2 (h2 a ds h).2⟩, w⟩) (e2 _ _ _ w)) (e1 _ _ _ w)⟩, _, pgs_cons p1 p2 hs, fun env σ G H vs ds Q r rp w => ?_⟩
  obtain ⟨d, r', rfl, w⟩ := w
  obtain ⟨x, xs, rfl, rp1, rp2⟩ := rp.uncons
  refine ⟨x, xs, rfl, q1 env σ G H x d _ r rp1 (m1 _ _ _ _ (fun e w => ?_) w)⟩
  intro σ' r1 hw
  refine q2 e σ' G H xs r' Q r1 rp2 (m2 _ _ _ _ (fun e2 w => ?_) w)
  intro σ2 r2 hw2
  exact w σ2 r2 fun us hu => (hw2 us fun j hj => hu j (List.mem_append_right _ hj)).trans (hw us fun j hj => hu j (List.mem_append_left _ hj))
def wGTup (n : Nat) (u : WGs) : WG := fun env d Q => ∃ ds, d = .tup ds ∧ ds.length = n ∧ u env ds Q
theorem dg_tup {ts : List Expr} {kk : Nat} {n : Nat} {js : List Nat} {u : WGs} {pos : Pos} (C : DC W E k X) (h : DGs W G0 H0 X ts js u) (hp : ∀ {g : TGs}, PGs X ts g → PG X (.Tuple ts kk pos) (gTup X.K n g)) :
    DG W G0 H0 X (.Tuple ts kk pos) js (wGTup n u) := by
  obtain ⟨m, pr, g, p, q⟩ := h
  refine ⟨fun env d Q Q' z ⟨ds, e, l, w⟩ => ⟨ds, e, l, m _ _ _ _ z w⟩, fun env d Q ⟨ds, e, l, w⟩ => ⟨ds, e, l, pr _ _ _ w⟩, _, hp p, fun env σ G H v d Q r rp w => ?_⟩
  obtain ⟨ds, rfl, l, w⟩ := w
  unfold rep at rp
  obtain ⟨a, xs, rfl, hs, rps⟩ := rp
  refine ⟨a, xs, rfl, ?_, by rw [rps.length]; exact l, q env σ G H xs ds Q r rps w⟩
  rw [C.hK]
  exact Same.sqT r.gok.le hs
def wAsg (w : WG) (f : WE) : WS := fun env D X => f env (fun d => w env d D.nx) X
theorem ds_asg {tg e : Expr} {js : List Nat} {w : WG} {f : WE} {pos : Pos} (he : DE W G0 H0 E X e f) (hg : DG W G0 H0 X tg js w) (hs : swapsWithSole [tg] e pos.line X.env = pure false := by rfl) (hw : swappedStores [tg] e X.env = pure none := by rfl)
    (h1 : (assignEach [tg] X.env).map (·.2) = [assign tg X.env] := by rfl) : DS W G0 H0 E X (.Assign [tg] e pos) (wAsg w f) := by
  obtain ⟨m, t, p, q⟩ := he
  obtain ⟨mg, _, g, pg, qg⟩ := hg
  refine ⟨fun env D D' X z w => m _ _ _ _ (fun d w => mg _ _ _ _ z.nx w) w, _, ps_asg p pg hs hw h1, fun env σ G H Dv r w => ?_⟩
  refine q env σ G H _ r (m _ _ _ _ (fun d w => ?_) w)
  intro v G1 H1 s1 rp
  refine qg env σ G1 H1 v d _ (r.step s1) rp (mg _ _ _ _ (fun e w => ?_) w)
  intro σ' r' _
  exact w σ' G1 H1 s1.le r'
/-- name = value -/
theorem ds_set {i : Nat} {x : Str} {e : Expr} {f : WE} {pos pos' : Pos} (hp : ∀ te, PE X e te → PS X (.Assign [.Name x pos'] e pos) (tAsg te (gName i))) (he : DE W G0 H0 E X e f) :
    DS W G0 H0 E X (.Assign [.Name x pos'] e pos) (wAsg (wN i) f) := by
  obtain ⟨m, t, p, q⟩ := he
  refine ⟨fun env D D' X z w => m _ _ _ _ (fun d w => z.nx _ w) w, _, hp _ p, fun env σ G H Dv r w => ?_⟩
  refine q env σ G H _ r (m _ _ _ _ (fun d w => ?_) w)
  intro v G1 H1 s1 rp
  exact w _ G1 H1 s1.le ((r.step s1).set_dt rp)
/-- a new list goes into a slot, owned -/
def wAsgF (i : Nat) (f : WL) : WS := fun env D X => f env (fun ds => D.nx (env.set i (.ow ds))) X
theorem ds_asgF {i : Nat} {x : Str} {e : Expr} {f : WL} {pos pos' : Pos} (hp : ∀ te, PE X e te → PS X (.Assign [.Name x pos'] e pos) (tAsg te (gName i))) (he : DF W G0 H0 E X e f) :
    DS W G0 H0 E X (.Assign [.Name x pos'] e pos) (wAsgF i f) := by
  obtain ⟨m, t, p, q⟩ := he
  refine ⟨fun env D D' X z w => m _ _ _ _ (fun d w => z.nx _ w) w, _, hp _ p, fun env σ G H Dv r w => ?_⟩
  refine q env σ G H _ r (m _ _ _ _ (fun ds w => ?_) w)
  intro p xs G1 H1 s1 n a b rp
  refine w _ G1 H1 s1.le ((r.step s1).set_ow a b (r.st.fr n) rp fun j es _ ej z => ?_)
  obtain ⟨p', ys, h1, h2, _⟩ := r.ow j es ej
  rw [h1] at z
  cases z
  exact n.not h2 lst_tbl
/-- the owned list goes from one slot into another: the old name is not used further -/
def wMove (i j : Nat) : WS := fun env D _ => ∃ ds, env[j]? = some (.ow ds) ∧ i ≠ j ∧ D.nx ((env.set j .non).set i (.ow ds))
theorem ds_move {i j : Nat} {x y : Str} {pos pos' py : Pos} (hp : ∀ te, PE X (.Name y py) te → PS X (.Assign [.Name x pos'] (.Name y py) pos) (tAsg te (gName i))) (hy : PE X (.Name y py) (tVar j)) :
    DS W G0 H0 E X (.Assign [.Name x pos'] (.Name y py) pos) (wMove i j) := by
  refine ⟨fun env D D' X z ⟨ds, e, n, w⟩ => ⟨ds, e, n, z.nx _ w⟩, _, hp _ hy, fun env σ G H Dv r w => ?_⟩
  obtain ⟨ds, e, n, w⟩ := w
  obtain ⟨p, xs, h1, h2, h3, h4, h5⟩ := r.ow j ds e
  have r1 : RelS W G0 H0 (env.set j .non) (σ.set j (some (.ref p))) G H := r.set_non
  have e1 : σ.set j (some (.ref p)) = σ := by
    have hl : j < σ.length := (List.getElem?_eq_some_iff.mp h1).1
    apply List.ext_getElem?
    intro a
    by_cases ha : j = a
    · subst ha; rw [List.getElem?_set_self hl, h1]
    · rw [List.getElem?_set_ne ha]
  rw [e1] at r1
  refine ⟨.ref p, h1, w _ G H (Same.refl _) (r1.set_ow h2 h3 h4 h5 fun a es na ea => ?_)⟩
  have hja : j ≠ a := fun z => by
    subst z
    have hl : j < env.length := (List.getElem?_eq_some_iff.mp e).1
    rw [List.getElem?_set_self hl] at ea; cases ea
  rw [List.getElem?_set_ne hja] at ea
  exact r.dj j a ds es p hja e ea h1

/-! ### while -/
def wWhile (c : WT) (b : WS) : WS := fun env D X => ∃ P : Nat → Env1 → Prop, (∃ m, P m env) ∧ ∀ m env, P m env →
  c env (fun k => if k = true then b env { D with nx := fun e => ∃ m', m' < m ∧ P m' e, ct := fun e => ∃ m', m' < m ∧ P m' e, bk := D.nx } X else D.nx env) X
theorem ds_while {c : Expr} {body : List Stmt} {fc : WT} {f : WS} {pos : Pos} (C : DC W E k X) (hc : DT W G0 H0 E X c fc) (hb : DSs W G0 H0 E X body f) : DS W G0 H0 E X (.While c body [] pos) (wWhile fc f) := by
  obtain ⟨mc, tc, pc, qc⟩ := hc
  obtain ⟨mb, tb, pb, qb⟩ := hb
  refine ⟨fun env D D' X z ⟨P, h0, h⟩ => ⟨P, h0, fun m env hp => mc _ _ _ _ (fun k => ite_mono (mb _ { D with nx := fun e => ∃ m', m' < m ∧ P m' e, ct := fun e => ∃ m', m' < m ∧ P m' e, bk := D.nx } { D' with nx := fun e => ∃ m', m' < m ∧ P m' e, ct := fun e => ∃ m', m' < m ∧ P m' e, bk := D'.nx } _ ⟨fun _ h => h, z.rt, z.nx, fun _ h => h⟩) (z.nx _)) (h m env hp)⟩, _, ps_while C.po pc pb, fun env σ G H Dv r w => ?_⟩
  obtain ⟨P, ⟨m0, h0⟩, hP⟩ := w
  refine ⟨fun m σ' H' => ∃ env' G', Same G G' ∧ RelS W G0 H0 env' σ' G' H' ∧ P m env', ⟨m0, env, G, Same.refl _, r, h0⟩, ?_⟩
  rintro m σ' H' ⟨env', G', sm, r', hp⟩
  refine qc env' σ' G' H' _ r' (mc _ _ _ _ (fun b w => ?_) (hP m env' hp))
  intro G1 H1 s1
  cases b with
  | true =>
    rw [if_pos rfl] at w ⊢
    refine ⟨fun σ2 H2 => ∃ m', m' < m ∧ ∃ env2 G2, Same G G2 ∧ RelS W G0 H0 env2 σ2 G2 H2 ∧ P m' env2, fun σ2 H2 h => h, ?_⟩
    refine qb env' σ' G1 H1 _ (r'.step s1) (mb _ _ _ _ ⟨?_, ?_, ?_, ?_⟩ w)
    · rintro e ⟨m', lt, hp'⟩ σ2 G2 H2 s2 r2
      exact ⟨m', lt, e, G2, (sm.trans s1.le).trans s2, r2, hp'⟩
    · intro rs h v G2 H2 s2
      exact h v G2 H2 ((sm.trans s1.le).trans s2)
    · intro e h σ2 G2 H2 s2
      exact h σ2 G2 H2 ((sm.trans s1.le).trans s2)
    · rintro e ⟨m', lt, hp'⟩ σ2 G2 H2 s2 r2
      exact ⟨m', lt, e, G2, (sm.trans s1.le).trans s2, r2, hp'⟩
  | false =>
    rw [if_neg Bool.false_ne_true] at w ⊢
    exact w σ' G1 H1 (sm.trans s1.le) (r'.step s1)

/-! ### what is walked -/
/-- the iterator gives the items ds, whatever is done meanwhile to what is no data -/
structure Itok (W : Wd) (J : It) (G : Hp) (ds : List D) : Prop where
  go : ∀ G' H' (i : Nat) d, GOk W G' H' → Same G G' → ds[i]? = some d → J.go i H'
  yld : ∀ G' H' (i : Nat) d x H'', GOk W G' H' → Same G G' → ds[i]? = some d → J.yld i H' x H'' → ∃ G'', Gst W G' H' G'' H'' ∧ rep W.K G'' d x
  stop : ∀ G' H' (i : Nat), GOk W G' H' → Same G G' → ds.length ≤ i → J.stop i H'
theorem Itok.mono {J : It} {ds : List D} (h : Itok W J G ds) (s : Same G G') : Itok W J G' ds :=
  ⟨fun G1 H1 i d g s' => h.go G1 H1 i d g (s.trans s'), fun G1 H1 i d x H2 g s' => h.yld G1 H1 i d x H2 g (s.trans s'), fun G1 H1 i g s' => h.stop G1 H1 i g (s.trans s')⟩
structure DI (W : Wd) (G0 H0 : Hp) (E : XK) (X : Cx) (tg iter : Expr) (f : WL) : Prop where
  mono : Mono f
  ex : ∃ wi, PI X tg iter wi ∧ ∀ env σ G H (R : It → Hp → Prop), RelS W G0 H0 env σ G H → f env (fun ds => ∀ J G' H', Gst W G H G' H' → Itok W J G' ds → R J H') (XOk W G0 H0 E) → wi σ H R
  fs : ∀ x, foldedSetIterable iter X.env x = pure x
def forRun (w : WG) (b : WS) : List D → WS
  | [] => wNext
  | d :: ds => fun env D X => w env d (fun env' => b env' { D with nx := fun e => forRun w b ds e D X, ct := fun e => forRun w b ds e D X, bk := D.nx } X)
def wFor (it : WL) (w : WG) (b : WS) : WS := fun env D X => it env (fun ds => forRun w b ds env D X) X
theorem forRun_mono {w : WG} {b : WS} (mw : ∀ env d (Q Q' : Env1 → Prop), (∀ e, Q e → Q' e) → w env d Q → w env d Q') (mb : MonoS b) : ∀ ds, MonoS (forRun w b ds)
  | [], env, D, D', X, z, h => z.nx _ h
  | d :: ds, env, D, D', X, z, h => mw _ _ _ _ (fun e h => mb _ { D with nx := fun e => forRun w b ds e D X, ct := fun e => forRun w b ds e D X, bk := D.nx } { D' with nx := fun e => forRun w b ds e D' X, ct := fun e => forRun w b ds e D' X, bk := D'.nx } _ ⟨fun e h => forRun_mono mw mb ds e D D' X z h, z.rt, z.nx, fun e h => forRun_mono mw mb ds e D D' X z h⟩ h) h
theorem ds_for {tg iter : Expr} {body : List Stmt} {fi : WL} {js : List Nat} {w : WG} {f : WS} {pos : Pos} (C : DC W E k X) (hi : DI W G0 H0 E X tg iter fi) (hg : DG W G0 H0 X tg js w) (hb : DSs W G0 H0 E X body f) :
    DS W G0 H0 E X (.For tg iter body [] pos) (wFor fi w f) := by
  obtain ⟨mi, ⟨wi, pi, qi⟩, fs⟩ := hi
  obtain ⟨mg, _, g, pg, qg⟩ := hg
  obtain ⟨mb, tb, pb, qb⟩ := hb
  refine ⟨fun env D D' X z h => mi _ _ _ _ (fun ds h => forRun_mono mg mb ds _ _ _ _ z h) h, _, ps_for C.po C.calm pi pg pb fs, fun env σ G H Dv r h => ?_⟩
  refine qi env σ G H _ r (mi _ _ _ _ (fun ds h => ?_) h)
  intro J G1 H1 s1 ok
  refine ⟨fun i m σ' H' => ∃ env' G', m = ds.length - i ∧ i ≤ ds.length ∧ Same G1 G' ∧ RelS W G0 H0 env' σ' G' H' ∧ forRun w f (ds.drop i) env' (dnOf W G0 H0 G' Dv) (XOk W G0 H0 E), ⟨ds.length - 0, env, G1, rfl, Nat.zero_le _, Same.refl _, r.step s1, ?_⟩, ?_⟩
  · rw [List.drop_zero]
    exact forRun_mono mg mb ds _ _ _ _ (dnOf_le s1.le) h
  · rintro i m σ' H' ⟨env', G', em, hle, sm, r', hr⟩
    by_cases hi : i < ds.length
    · have gi : ds[i]? = some ds[i] := List.getElem?_eq_getElem hi
      rw [List.drop_eq_getElem_cons hi] at hr
      refine .inr ⟨ok.go G' H' i _ r'.gok sm gi, fun σ2 H2 => ∃ env2 G2, Same G1 G2 ∧ RelS W G0 H0 env2 σ2 G2 H2 ∧ forRun w f (ds.drop (i + 1)) env2 (dnOf W G0 H0 G2 Dv) (XOk W G0 H0 E), fun σ2 H2 h => ?_, fun x H2 hy => ?_⟩
      · obtain ⟨env2, G2, a, b, c⟩ := h
        exact ⟨ds.length - (i + 1), by omega, env2, G2, rfl, hi, a, b, c⟩
      · obtain ⟨G2, s2, rp⟩ := ok.yld G' H' i _ x H2 r'.gok sm gi hy
        refine qg env' σ' G2 H2 x _ _ (r'.step s2) rp (mg _ _ _ _ (fun e h => ?_) hr)
        intro σ3 r3 _
        refine qb e σ3 G2 H2 _ r3 (mb _ _ _ _ ⟨?_, ?_, ?_, ?_⟩ h)
        · intro e3 h3 σ4 G4 H4 s4 r4
          exact ⟨e3, G4, (sm.trans s2.le).trans s4, r4, forRun_mono mg mb _ _ _ _ _ (dnOf_le (s2.le.trans s4)) h3⟩
        · intro rs h v G4 H4 s4
          exact h v G4 H4 (s2.le.trans s4)
        · intro e3 h3 σ4 G4 H4 s4
          exact h3 σ4 G4 H4 (s2.le.trans s4)
        · intro e3 h3 σ4 G4 H4 s4 r4
          exact ⟨e3, G4, (sm.trans s2.le).trans s4, r4, forRun_mono mg mb _ _ _ _ _ (dnOf_le (s2.le.trans s4)) h3⟩
    · have e0 : ds.drop i = [] := List.drop_eq_nil_of_le (by omega)
      rw [e0] at hr
      exact .inl ⟨ok.stop G' H' i r'.gok sm (by omega), hr σ' G' H' (Same.refl _) r'⟩

/-! ### list comprehensions -/
def wipeE (env : Env1) : List Nat → Env1
  | [] => env
  | v :: vs => (wipeE env vs).set v .non
theorem RelS.wipe (r : RelS W G0 H0 env σ G H) : ∀ vs : List Nat, RelS W G0 H0 (wipeE env vs) (L2.wipe σ vs) G H
  | [] => r
  | v :: vs => (RelS.wipe r vs).set_non
def lcRun (w : WG) (tt : WT) (te : WE) (env : Env1) : List D → (List D → Prop) → PX → Prop
  | [], Q, _ => Q []
  | d :: ds, Q, X => w env d (fun env' => tt env' (fun b => if b = true then te env' (fun y => lcRun w tt te env ds (fun ys => Q (y :: ys)) X) X else lcRun w tt te env ds Q X) X)
def wLc (it : WL) (w : WG) (tt : WT) (te : WE) (vs : List Nat) : WL := fun env Q X => it env (fun ds => ds.length ≤ sizeLine ∧ ∀ X', lcRun w tt te (wipeE env vs) ds Q X') X
theorem lcRun_mono {w : WG} {tt : WT} {te : WE} (mw : ∀ env d (Q Q' : Env1 → Prop), (∀ e, Q e → Q' e) → w env d Q → w env d Q') (mt : Mono tt) (me : Mono te) {env : Env1} {X : PX} :
    ∀ (ds : List D) (Q Q' : List D → Prop), (∀ a, Q a → Q' a) → lcRun w tt te env ds Q X → lcRun w tt te env ds Q' X
  | [], Q, Q', z, h => z _ h
  | d :: ds, Q, Q', z, h => mw _ _ _ _ (fun e h => mt _ _ _ _ (fun b => ite_mono (me _ _ _ _ fun y h => lcRun_mono mw mt me ds _ _ (fun a h => z _ h) h) (lcRun_mono mw mt me ds _ _ z)) h) h
structure DTs (W : Wd) (G0 H0 : Hp) (E : XK) (X : Cx) (ifs : List Expr) (f : WT) : Prop where
  mono : Mono f
  ex : ∃ t, PTs X ifs t ∧ ∀ env σ G H Q, RelS W G0 H0 env σ G H → f env (QT W G H Q) (XOk W G0 H0 E) → t σ H Q
def wYes : WT := fun _ Q _ => Q true
theorem dts_nil : DTs W G0 H0 E X [] wYes := ⟨fun env Q Q' X z w => z _ w, _, pts_nil, fun env σ G H Q r w => w G H (.refl r.gok)⟩
theorem dts_one {c : Expr} {f : WT} (h : DT W G0 H0 E X c f) : DTs W G0 H0 E X [c] f := by
  obtain ⟨m, t, p, q⟩ := h
  exact ⟨m, t, pts_one p, q⟩
/-- the block of a comprehension -/
abbrev bx (X : Cx) (scope : Scope) (s : Shared) (H : Hp) (C : Addr) (cl : List (Str × Addr)) (fp : List Addr) : Cx := X.blk s H scope (compEnvC scope cl C X.env) fp
theorem DC.blk (C : DC W E k X) (scope : Scope) (s : Shared) (H : Hp) (a : Addr) (cl : List (Str × Addr)) (fp : List Addr) : DC W E0 k (bx X scope s H a cl fp) :=
  ⟨C.hK, C.calm, C.nd, takesN0, C.room, PassesOwn.never⟩
/-- a fresh list by any rule: P says what the reading is good for -/
structure DFp (W : Wd) (G0 H0 : Hp) (E : XK) (P : TE → Prop) (f : WL) : Prop where
  mono : Mono f
  ex : ∃ t, P t ∧ ∀ env σ G H Q, RelS W G0 H0 env σ G H → f env (QF W G H Q) (XOk W G0 H0 E) → t σ H Q
theorem DFp.df {e : Expr} {f : WL} (h : DFp W G0 H0 E (PE X e) f) : DF W G0 H0 E X e f := ⟨h.mono, h.ex⟩
theorem DFp.set {i : Nat} {st : Stmt} {f : WL} (h : DFp W G0 H0 E (fun t => PS X st (tAsg t (gName i))) f) : DS W G0 H0 E X st (wAsgF i f) := by
  obtain ⟨m, t, p, q⟩ := h
  refine ⟨fun env D D' X z w => m _ _ _ _ (fun d w => z.nx _ w) w, _, p, fun env σ G H Dv r w => ?_⟩
  refine q env σ G H _ r (m _ _ _ _ (fun ds w => ?_) w)
  intro p xs G1 H1 s1 n a b rp
  refine w _ G1 H1 s1.le ((r.step s1).set_ow a b (r.st.fr n) rp fun j es _ ej z => ?_)
  obtain ⟨p', ys, h1, h2, _⟩ := r.ow j es ej
  rw [h1] at z
  cases z
  exact n.not h2 lst_tbl
theorem DFp.setD {i : Nat} {st : Stmt} {f : WL} (h : DFp W G0 H0 E (fun t => PS X st (tAsg t (gName i))) f) : DS W G0 H0 E X st (wAsg (wN i) (wDat f)) := by
  obtain ⟨m, t, p, q⟩ := h
  refine ⟨fun env D D' X z w => m _ _ _ _ (fun d w => z.nx _ w) w, _, p, fun env σ G H Dv r w => ?_⟩
  refine q env σ G H _ r (m _ _ _ _ (fun ds w => ?_) w)
  intro p xs G1 H1 s1 n a b rp
  have sm : Same G1 (upd G1 p (.lst xs)) := same_new b
  have s2 : Gst W G H (upd G1 p (.lst xs)) H1 := by
    refine ⟨s1.gok.show a b n.1, s1.le.trans sm, fun c o y => ?_, s1.keep⟩
    by_cases hc : c = p
    · subst hc; exact .inr n
    · rw [upd_ne hc] at y; exact s1.new c o y
  refine w _ _ H1 s2.le ((r.step s2).set_dt ?_)
  unfold rep
  exact ⟨p, xs, rfl, upd_same, reps_mono sm _ _ rp⟩
theorem dfp_lc {P : TE → Prop} {elt tg iter : Expr} {ifs : List Expr} {scope : Scope} {own : List (Str × Nat)} {fi : WL} {js : List Nat} {w : WG} {ft : WT} {fe : WE} (C : DC W E k X) (ok : BlkOk X.N X.env.scope scope own)
    (hi : DI W G0 H0 E X tg iter fi) (hjs : ∀ j ∈ js, j ∈ own.map (·.2))
    (hg : ∃ g, (∀ (s : Shared) (H : Hp) (a : Addr) (cl : List (Str × Addr)) (fp : List Addr), PG (bx X scope s H a cl fp) tg g) ∧ (∀ env d (Q Q' : Env1 → Prop), (∀ e, Q e → Q' e) → w env d Q → w env d Q') ∧
      ∀ env σ G H v d (Q : L2.St → Hp → Prop), RelS W G0 H0 env σ G H → rep W.K G d v → w env d (fun env' => ∀ σ', RelS W G0 H0 env' σ' G H → (∀ vs : List Nat, (∀ j ∈ js, j ∈ vs) → wipe σ' vs = wipe σ vs) → Q σ' H) → g v σ H Q)
    (ht : ∃ t, (∀ (s : Shared) (H : Hp) (a : Addr) (cl : List (Str × Addr)) (fp : List Addr), PTs (bx X scope s H a cl fp) ifs t) ∧ Mono ft ∧ ∀ env σ G H Q, RelS W G0 H0 env σ G H → ft env (QT W G H Q) (XOk W G0 H0 E0) → t σ H Q)
    (he : ∃ t, (∀ (s : Shared) (H : Hp) (a : Addr) (cl : List (Str × Addr)) (fp : List Addr), PE (bx X scope s H a cl fp) elt t) ∧ Mono fe ∧ ∀ env σ G H Q, RelS W G0 H0 env σ G H → fe env (QE W G H Q) (XOk W G0 H0 E0) → t σ H Q)
    (hpt : ∀ {wi : TI} {g : TG} {tt : TT} {te : TE}, PI X tg iter wi → (∀ (s : Shared) (H : Hp) (a : Addr) (cl : List (Str × Addr)) (fp : List Addr), PG (bx X scope s H a cl fp) tg g) → (∀ (s : Shared) (H : Hp) (a : Addr) (cl : List (Str × Addr)) (fp : List Addr), PTs (bx X scope s H a cl fp) ifs tt) →
      (∀ (s : Shared) (H : Hp) (a : Addr) (cl : List (Str × Addr)) (fp : List Addr), PE (bx X scope s H a cl fp) elt te) → (∀ x, foldedSetIterable iter X.env x = pure x) → P (tLc wi g tt te (own.map (·.2)))) :
    DFp W G0 H0 E P (wLc fi w ft fe (own.map (·.2))) := by
  obtain ⟨mi, ⟨wi, pi, qi⟩, fs⟩ := hi
  obtain ⟨g, pg, mg, qg⟩ := hg
  obtain ⟨tt, pt, mt, qt⟩ := ht
  obtain ⟨te, pe, me, qe⟩ := he
  refine ⟨fun env Q Q' X z h => mi _ _ _ _ (fun ds ⟨l, h⟩ => ⟨l, fun X' => lcRun_mono mg mt me ds _ _ z (h X')⟩) h, _, hpt pi pg pt pe fs, fun env σ G H Q r h => ?_⟩
  refine qi env σ G H _ r (mi _ _ _ _ (fun ds h => ?_) h)
  intro J G1 H1 s1 iok D hD
  have gD1 : G1 D = none := s1.gok.nn hD
  have sD : Gst W G1 H1 G1 (upd H1 D (.lst [])) := Gst.hid s1.gok _ hD
  have hn0 : fr W H D := s1.frn hD
  obtain ⟨hl, hX⟩ := h
  have hrun := hX (XOk W G0 H0 E0)
  refine ⟨fun i m H' => ∃ G' acc es, m = ds.length - i ∧ i ≤ ds.length ∧ Gst W G H G' H' ∧ Same G1 G' ∧ H' D = some (.lst acc) ∧ G' D = none ∧ acc.length ≤ i ∧ reps W.K G' es acc ∧
      lcRun w ft fe (wipeE env (own.map (·.2))) (ds.drop i) (fun ys => QF W G H Q (es ++ ys)) (XOk W G0 H0 E0), ⟨ds.length - 0, G1, [], [], rfl, Nat.zero_le _, s1.trans sD, Same.refl _, upd_same, gD1, Nat.le_refl _, .nil, ?_⟩, ?_⟩
  · rw [List.drop_zero]
    exact hrun
  · rintro i m H' ⟨G', acc, es, em, hle, st, sm, eD, gD, la, ra, hr⟩
    have r' := r.step st
    by_cases hi : i < ds.length
    · have gi : ds[i]? = some ds[i] := List.getElem?_eq_getElem hi
      rw [List.drop_eq_getElem_cons hi] at hr
      refine .inr ⟨iok.go G' H' i _ st.gok sm gi, fun H2 => ∃ G2 acc2 es2, Gst W G H G2 H2 ∧ Same G1 G2 ∧ H2 D = some (.lst acc2) ∧ G2 D = none ∧ acc2.length ≤ i + 1 ∧ reps W.K G2 es2 acc2 ∧
        lcRun w ft fe (wipeE env (own.map (·.2))) (ds.drop (i + 1)) (fun ys => QF W G H Q (es2 ++ ys)) (XOk W G0 H0 E0), fun H2 h => ?_, fun x H2 hy => ?_⟩
      · obtain ⟨G2, acc2, es2, a, b, c, d, e, f, h⟩ := h
        exact ⟨ds.length - (i + 1), by omega, G2, acc2, es2, rfl, hi, a, b, c, d, e, f, h⟩
      · obtain ⟨G2, s2, rp⟩ := iok.yld G' H' i _ x H2 st.gok sm gi hy
        have keepD : ∀ {Ga Ha Gb Hb : Hp}, GOk W Ga Ha → Gst W Ga Ha Gb Hb → ∀ {as}, Ha D = some (.lst as) → Ga D = none → Hb D = some (.lst as) ∧ Gb D = none := fun {Ga Ha Gb Hb} ga sa {as} ea na => by
          refine ⟨sa.keep _ _ ea lst_tbl hn0.1, ?_⟩
          cases q : Gb D with
          | none => rfl
          | some o =>
            rcases sa.new _ _ q with z | z
            · rw [na] at z; cases z
            · exact (z.not ea lst_tbl).elim
        obtain ⟨eD2, gD2⟩ := keepD st.gok s2 eD gD
        have rw0 := (r'.step s2).wipe (own.map (·.2))
        refine qg _ _ G2 H2 x _ _ rw0 rp (mg _ _ _ _ (fun e h => ?_) hr)
        intro σ3 r3 hw3
        refine ⟨?_, ?_⟩
        · have e1 := hw3 (own.map (·.2)) hjs
          rw [e1]
          have : ∀ us vs : List Nat, (∀ u ∈ us, u ∈ vs) → L2.wipe (L2.wipe σ us) vs = L2.wipe σ vs := fun us vs => by
            induction us with
            | nil => intro _; rfl
            | cons u us ih =>
              intro hu
              show L2.wipe ((L2.wipe σ us).set u none) vs = _
              rw [wipe_set (hu u List.mem_cons_self)]
              exact ih fun a ha => hu a (List.mem_cons_of_mem _ ha)
          exact this _ _ fun _ h => h
        · refine qt e σ3 G2 H2 _ r3 (mt _ _ _ _ (fun b h => ?_) h)
          intro G3 H3 s3
          obtain ⟨eD3, gD3⟩ := keepD s2.gok s3 eD2 gD2
          have st3 : Gst W G H G3 H3 := st.trans (s2.trans s3)
          cases b with
          | true =>
            rw [if_pos rfl] at h ⊢
            refine qe e σ3 G3 H3 _ (r3.step s3) (me _ _ _ _ (fun y h => ?_) h)
            intro v G4 H4 s4 rpy
            obtain ⟨eD4, gD4⟩ := keepD s3.gok s4 eD3 gD3
            have st4 : Gst W G H G4 H4 := st3.trans s4
            have sm4 : Same G' G4 := (s2.le.trans s3.le).trans s4.le
            refine ⟨acc, eD4, by omega, G4, acc ++ [v], es ++ [y], ?_, sm.trans sm4, upd_same, gD4, by rw [List.length_append]; simpa using la, (reps_mono sm4 _ _ ra).append (.cons rpy .nil), ?_⟩
            · refine ⟨⟨fun b o z => ?_, st4.gok.w.chg hn0.1 eD4, st4.gok.nm, st4.gok.tb⟩, st4.le, st4.new, fun a o z t n => ?_⟩
              · rw [upd_ne (fun q => by rw [q, gD4] at z; cases z)]; exact st4.gok.le b o z
              · rw [upd_ne (fun q => by subst q; exact hn0.not z t)]; exact st4.keep a o z t n
            · refine lcRun_mono mg mt me _ _ _ (fun ys h => ?_) h
              rw [List.append_assoc]
              exact h
          | false =>
            rw [if_neg Bool.false_ne_true] at h ⊢
            exact ⟨G3, acc, es, st3, sm.trans (s2.le.trans s3.le), eD3, gD3, by omega, reps_mono (s2.le.trans s3.le) _ _ ra, h⟩
    · have e0 : ds.drop i = [] := List.drop_eq_nil_of_le (by omega)
      rw [e0] at hr
      have hr' : QF W G H Q (es ++ []) := hr
      rw [List.append_nil] at hr'
      exact .inl ⟨iok.stop G' H' i st.gok sm (by omega), hr' D acc G' H' st hn0 eD gD ra⟩
end
end DL
/-! calls, defs, raise, owned lists -/
namespace DL
open PySem PySem.Spec PyProof.Rows L2

/-! ### a def's spec -/
abbrev SpecD := List D → PD → PX → Prop
def spD (W : Wd) (n : Nat) (S : SpecD) : Sp := fun vs H Q E => vs.length = n ∧ ∃ G ds, GOk W G H ∧ reps W.K G ds vs ∧ S ds (QE W G H Q) (XOk W G H E)
/-- a def whose answer is a new list -/
abbrev SpecF := List D → (List D → Prop) → PX → Prop
def spF (W : Wd) (n : Nat) (S : SpecF) : Sp := fun vs H Q E => vs.length = n ∧ ∃ G ds, GOk W G H ∧ reps W.K G ds vs ∧ S ds (QF W G H Q) (XOk W G H E)
def MonoD {α : Type} (S : List D → (α → Prop) → PX → Prop) : Prop := ∀ ds Q Q' X X', (∀ d, Q d → Q' d) → (∀ e, X e → X' e) → S ds Q X → S ds Q' X'
structure CalD (W : Wd) (P : Program) (w : World) (mg : Str → Option Value) (base : Heap) (x : Str) (k n : Nat) (S : SpecD) : Prop where
  mono : MonoD S
  ex : ∃ f fd ps, mg x = some (.ref f) ∧ PySem.W.keepIn W.K (.ref f) = true ∧ Binds W.K fd ps [] ∧ FnOk P w W.K mg base (L2N.CX P w) k f fd ps (spD W n S)
structure CalF (W : Wd) (P : Program) (w : World) (mg : Str → Option Value) (base : Heap) (x : Str) (k n : Nat) (S : SpecF) : Prop where
  mono : MonoD S
  ex : ∃ f fd ps, mg x = some (.ref f) ∧ PySem.W.keepIn W.K (.ref f) = true ∧ Binds W.K fd ps [] ∧ FnOk P w W.K mg base (L2N.CX P w) k f fd ps (spF W n S)
section
variable {W : Wd} {P : Program} {w : World} {mg : Str → Option Value} {base : Heap} {x : Str} {k n : Nat}
theorem CalD.up {S : SpecD} (h : CalD W P w mg base x k n S) {j : Nat} (hj : k ≤ j) : CalD W P w mg base x j n S := by
  obtain ⟨m, f, fd, ps, a, b, c, d⟩ := h
  exact ⟨m, f, fd, ps, a, b, c, d.mono hj⟩
theorem CalF.up {S : SpecF} (h : CalF W P w mg base x k n S) {j : Nat} (hj : k ≤ j) : CalF W P w mg base x j n S := by
  obtain ⟨m, f, fd, ps, a, b, c, d⟩ := h
  exact ⟨m, f, fd, ps, a, b, c, d.mono hj⟩
/-- a weaker spec -/
theorem CalD.imp {S S' : SpecD} (h : CalD W P w mg base x k n S) (m : MonoD S') (hi : ∀ ds Q X, S' ds Q X → S ds Q X) : CalD W P w mg base x k n S' := by
  obtain ⟨_, f, fd, ps, a, b, c, d⟩ := h
  exact ⟨m, f, fd, ps, a, b, c, d.imp fun vs H Q E ⟨l, G, ds, g, r, s⟩ => ⟨l, G, ds, g, r, hi _ _ _ s⟩⟩
end
section
variable {W : Wd} {G0 H0 G G' H H' : Hp} {E : XK} {X : Cx} {k n : Nat} {env : Env1} {σ : L2.St}
theorem XOk.step (s : Gst W G0 H0 G H) {ex : Ex} (h : XOk W G0 H0 E ex) : XOk W G H E ex := fun cls dx G' H' t r => h cls dx G' H' (s.trans t) r
def wCall (S : SpecD) (g : WL) : WE := fun env Q X => g env (fun ds => S ds Q X) X
def wCallF (S : SpecF) (g : WL) : WL := fun env Q X => g env (fun ds => S ds Q X) X
theorem DC.pass (C : DC W E k X) : Passes (L2N.CX X.prog X.w) X E := L2N.passes_call C.tk fun _ _ _ _ h => h
theorem de_call {S : SpecD} {x : Str} {e : Expr} {es : List Expr} {g : WL} {p pos : Pos} (C : DC W E k X) (h : CalD W X.prog X.w X.mg X.base x k n S) (hn : n = (e :: es).length) (hg : Gl X x) (ha : DA W G0 H0 E X (e :: es) g) (hdb : (x == ("__debug__" : Str)) = false := by decide)
    (he : starEach (e :: es) X.env = (false, eval e X.env) :: starEach es X.env := by rfl) (hpl : (backTo pos (starEach es X.env)).any (·.1) = false := by rfl) : DE W G0 H0 E X (.Call (.Name x p) (e :: es) [] pos) (wCall S g) := by
  obtain ⟨mS, f, fd, ps, gm, kp, bi, F⟩ := h
  obtain ⟨m, ln, t, pt, q⟩ := ha
  rw [← C.hK] at kp bi F
  refine ⟨fun env Q Q' Y z w => m _ _ _ _ (fun ds w => mS _ _ _ _ _ z (fun _ h => h) w) w, _, pe_call F C.room hg gm kp bi .nil C.pass pt hdb he hpl, fun env σ G H Q r w => ?_⟩
  refine q env σ G H _ r (m _ _ _ _ (fun ds w => ?_) (ln _ _ _ w))
  intro vs G1 H1 s1 rp
  rw [List.append_nil]
  have r1 := r.step s1
  exact ⟨by rw [rp.length, w.1, hn], G1, ds, s1.gok, rp, mS _ _ _ _ _ (fun d h => QE.step s1 h) (fun e h => XOk.step r1.st h) w.2⟩
theorem de_call0 {S : SpecD} {x : Str} {p pos : Pos} (C : DC W E k X) (h : CalD W X.prog X.w X.mg X.base x k n S) (hn : n = 0) (hg : Gl X x) (hdb : (x == ("__debug__" : Str)) = false := by decide) : DE W G0 H0 E X (.Call (.Name x p) [] [] pos) (wCall S wNil) := by
  obtain ⟨mS, f, fd, ps, gm, kp, bi, F⟩ := h
  rw [← C.hK] at kp bi F
  refine ⟨fun env Q Q' Y z w => mS _ _ _ _ _ z (fun _ h => h) w, _, pe_call0 F C.room hg gm kp bi .nil C.pass hdb, fun env σ G H Q r w => ?_⟩
  exact ⟨by rw [hn]; rfl, G, [], r.gok, .nil, mS _ _ _ _ _ (fun d h => h) (fun e h => XOk.step r.st h) w⟩
theorem df_call {S : SpecF} {x : Str} {e : Expr} {es : List Expr} {g : WL} {p pos : Pos} (C : DC W E k X) (h : CalF W X.prog X.w X.mg X.base x k n S) (hn : n = (e :: es).length) (hg : Gl X x) (ha : DA W G0 H0 E X (e :: es) g) (hdb : (x == ("__debug__" : Str)) = false := by decide)
    (he : starEach (e :: es) X.env = (false, eval e X.env) :: starEach es X.env := by rfl) (hpl : (backTo pos (starEach es X.env)).any (·.1) = false := by rfl) : DF W G0 H0 E X (.Call (.Name x p) (e :: es) [] pos) (wCallF S g) := by
  obtain ⟨mS, f, fd, ps, gm, kp, bi, F⟩ := h
  obtain ⟨m, ln, t, pt, q⟩ := ha
  rw [← C.hK] at kp bi F
  refine ⟨fun env Q Q' Y z w => m _ _ _ _ (fun ds w => mS _ _ _ _ _ z (fun _ h => h) w) w, _, pe_call F C.room hg gm kp bi .nil C.pass pt hdb he hpl, fun env σ G H Q r w => ?_⟩
  refine q env σ G H _ r (m _ _ _ _ (fun ds w => ?_) (ln _ _ _ w))
  intro vs G1 H1 s1 rp
  rw [List.append_nil]
  have r1 := r.step s1
  exact ⟨by rw [rp.length, w.1, hn], G1, ds, s1.gok, rp, mS _ _ _ _ _ (fun d h => QF.step s1 h) (fun e h => XOk.step r1.st h) w.2⟩

/-! ### a def by its body -/
def startE (N : List Str) (ds : List D) : Env1 := ds.map Sl.dt ++ List.replicate (N.length - ds.length) Sl.non
def Rs.d : Rs → D
  | .dt d => d
  | .fr ds => .lst ds
def dRet (Q : PD) : DEn where
  nx := fun _ => Q .non
  rt := fun r => Q r.d
def dRetF (Q : List D → Prop) : DEn where
  nx := fun _ => False
  rt := fun r => ∃ ds, r = .fr ds ∧ Q ds
theorem relS_start {N : List Str} {ds : List D} {vs : List V} (g : GOk W G H) (r : reps W.K G ds vs) : RelS W G H (startE N ds) (L2.start N vs) G H where
  w0 := g.w
  st := .refl g
  len := by unfold startE L2.start; rw [List.length_append, List.length_append, List.length_map, List.length_map, List.length_replicate, List.length_replicate, r.length]
  dt := fun i d e => by
    unfold startE at e
    have hi : i < ds.length := by
      by_cases hi : i < ds.length
      · exact hi
      · rw [List.getElem?_append_right (by simpa using hi), List.getElem?_replicate] at e
        split at e <;> cases e
    rw [List.getElem?_append_left (by simpa using hi), List.getElem?_map] at e
    obtain ⟨d', e1, e2⟩ := Option.map_eq_some_iff.mp e
    cases e2
    obtain ⟨x, h1, h2⟩ := r.get e1
    refine ⟨x, ?_, h2⟩
    unfold L2.start
    have hl : i < vs.length := by rw [r.length]; exact hi
    rw [List.getElem?_append_left (by simpa using hl), List.getElem?_map, h1]; rfl
  ow := fun i d e => by
    unfold startE at e
    exfalso
    by_cases hi : i < ds.length
    · rw [List.getElem?_append_left (by simpa using hi), List.getElem?_map] at e
      obtain ⟨d', e1, e2⟩ := Option.map_eq_some_iff.mp e
      cases e2
    · rw [List.getElem?_append_right (by simpa using hi), List.getElem?_replicate] at e
      split at e <;> cases e
  dj := fun i j ds' es p n e => by
    unfold startE at e
    exfalso
    by_cases hi : i < ds.length
    · rw [List.getElem?_append_left (by simpa using hi), List.getElem?_map] at e
      obtain ⟨d', e1, e2⟩ := Option.map_eq_some_iff.mp e
      cases e2
    · rw [List.getElem?_append_right (by simpa using hi), List.getElem?_replicate] at e
      split at e <;> cases e
  od := fun i ks ds' e => by
    unfold startE at e
    exfalso
    by_cases hi : i < ds.length
    · rw [List.getElem?_append_left (by simpa using hi), List.getElem?_map] at e
      obtain ⟨d', e1, e2⟩ := Option.map_eq_some_iff.mp e
      cases e2
    · rw [List.getElem?_append_right (by simpa using hi), List.getElem?_replicate] at e
      split at e <;> cases e
  dd := fun i j ks ds' ks2 es p n e => by
    unfold startE at e
    exfalso
    by_cases hi : i < ds.length
    · rw [List.getElem?_append_left (by simpa using hi), List.getElem?_map] at e
      obtain ⟨d', e1, e2⟩ := Option.map_eq_some_iff.mp e
      cases e2
    · rw [List.getElem?_append_right (by simpa using hi), List.getElem?_replicate] at e
      split at e <;> cases e
theorem reps_fr {ds : List D} {p : Addr} {xs : List V} (g : GOk W G' H') (st : Gst W G H G' H') (a : H' p = some (.lst xs)) (b : G' p = none) (n : fr W H p) (rp : reps W.K G' ds xs) : Gst W G H (upd G' p (.lst xs)) H' ∧ rep W.K (upd G' p (.lst xs)) (.lst ds) (.ref p) := by
  have sm : Same G' (upd G' p (.lst xs)) := same_new b
  refine ⟨⟨g.show a b n.1, st.le.trans sm, fun c o y => ?_, st.keep⟩, ?_⟩
  · by_cases hc : c = p
    · subst hc; exact .inr n
    · rw [upd_ne hc] at y; exact st.new c o y
  · unfold rep
    exact ⟨p, xs, rfl, upd_same, reps_mono sm _ _ rp⟩
end
section
variable {W : Wd} {P : Program} {w : World} {mg : Str → Option Value} {base : Heap} {x : Str} {k : Nat}
theorem DC.of_cx {N ps : List Str} {sc : Scope} {f : Addr} {cdv : Value} {A : Around} {outer : List Env} {s : Shared} {H : Hp} {E : XK} (S : FnScope N ps sc) (hr : Room k (A.deeper (envOfC x sc s.heap.objs.size f cdv))) :
    DC W E k (cxOf (L2N.CX P w) P w W.K mg base N x sc f cdv A outer s H E) := ⟨rfl, rfl, S.nd, L2N.takes_of rfl rfl rfl rfl, hr, passes_of rfl⟩
theorem CalD.mk' {st : Stmt} {f : Addr} {fd : FuncData} {N ps : List Str} {S : SpecD} {body : WS} (F : Fun W.K x x st f fd) (hm : mg x = some (.ref f)) (hb : Binds W.K fd ps []) (sc : FnScope N ps (defScope st)) (mono : MonoD S)
    (hbody : ∀ (G : Hp) (cdv : Value) (A : Around) (outer : List Env) (s : Shared) (H : Hp) (E : XK), DC W E k (cxOf (L2N.CX P w) P w W.K mg base N x (defScope st) f cdv A outer s H E) →
      DSs W G H E (cxOf (L2N.CX P w) P w W.K mg base N x (defScope st) f cdv A outer s H E) (defBody st) body)
    (hS : ∀ ds Q Y, ds.length = ps.length → S ds Q Y → body (startE N ds) (dRet Q) Y) : CalD W P w mg base x (k + 1) ps.length S := by
  refine ⟨mono, f, fd, ps, hm, F.kp, hb, ?_⟩
  refine okN F sc (fun vs H Q E h => h.1) (fun cdv A outer s H vs Q E hr h => ?_)
  obtain ⟨hl, G, ds, g, rp, hs⟩ := h
  obtain ⟨m, t, pt, q⟩ := hbody G cdv A outer s H E (DC.of_cx sc hr)
  refine ⟨t, pt, q (startE N ds) (L2.start N vs) G H _ (relS_start g rp) (m _ (dRet (QE W G H Q)) _ _ ⟨fun e h => ?_, fun r h => ?_, fun e h => False.elim h, fun e h => False.elim h⟩ (hS ds _ _ (by rw [← rp.length, hl]) hs))⟩
  · intro σ' G' H' sm r'
    exact h .non G' H' r'.st (by unfold rep; rfl)
  · intro v G' H' sm st rr
    cases r with
    | dt d => exact h v G' H' st rr
    | fr es =>
      obtain ⟨p, xs, rfl, a, b, n, rq⟩ := rr
      obtain ⟨st', rp'⟩ := reps_fr st.gok st a b n rq
      exact h (.ref p) _ H' st' rp'
theorem CalF.mk' {st : Stmt} {f : Addr} {fd : FuncData} {N ps : List Str} {S : SpecF} {body : WS} (F : Fun W.K x x st f fd) (hm : mg x = some (.ref f)) (hb : Binds W.K fd ps []) (sc : FnScope N ps (defScope st)) (mono : MonoD S)
    (hbody : ∀ (G : Hp) (cdv : Value) (A : Around) (outer : List Env) (s : Shared) (H : Hp) (E : XK), DC W E k (cxOf (L2N.CX P w) P w W.K mg base N x (defScope st) f cdv A outer s H E) →
      DSs W G H E (cxOf (L2N.CX P w) P w W.K mg base N x (defScope st) f cdv A outer s H E) (defBody st) body)
    (hS : ∀ ds Q Y, ds.length = ps.length → S ds Q Y → body (startE N ds) (dRetF Q) Y) : CalF W P w mg base x (k + 1) ps.length S := by
  refine ⟨mono, f, fd, ps, hm, F.kp, hb, ?_⟩
  refine okN F sc (fun vs H Q E h => h.1) (fun cdv A outer s H vs Q E hr h => ?_)
  obtain ⟨hl, G, ds, g, rp, hs⟩ := h
  obtain ⟨m, t, pt, q⟩ := hbody G cdv A outer s H E (DC.of_cx sc hr)
  refine ⟨t, pt, q (startE N ds) (L2.start N vs) G H _ (relS_start g rp) (m _ (dRetF (QF W G H Q)) _ _ ⟨fun e h => False.elim h, fun r h => ?_, fun e h => False.elim h, fun e h => False.elim h⟩ (hS ds _ _ (by rw [← rp.length, hl]) hs))⟩
  intro v G' H' sm st rr
  obtain ⟨es, rfl, h⟩ := h
  obtain ⟨p, xs, rfl, a, b, n, rq⟩ := rr
  exact h p xs G' H' st n a b rq
end

/-! ### raise -/
section
variable {W : Wd} {G0 H0 G G' H H' : Hp} {E : XK} {X : Cx} {k n : Nat} {env : Env1} {σ : L2.St}
/-- X(), X an own exception class without own __init__ -/
theorem pmk_own0 {C : Addr} {bmB : List Value} {B newId initId : String} {x : Str} {p pos : Pos} (F : ExcBaseFacts B newId initId bmB) (q : PySem.W.excIn X.K C bmB newId = true) (gC : X.mg x = some (.ref C))
    (kC : PySem.W.keepIn X.K (.ref C) = true) (r : Raises X (.ref C)) (hg : Gl X x) (hdb : (x == ("__debug__" : Str)) = false := by decide) :
    L2N.PMk X (.Call (.Name x p) [] [] pos) (fun σ H Q => Q (.ref C) none H) := by
  intro pins s σ H Q I h
  refine wpAny_Call_Name_kw (ld_glob I hg gC ?_ hdb)
  refine PySem.W.callWith_K0 I.kIn kC ?_
  show wpAny _ _ (call (.ref C) []) _ _ _
  obtain ⟨bm, N, nm, qn, bs, hdct, sn, sub, ab, col, dd, k0, k1, k2, k3, k5, mN, hC, hN, hni, T⟩ := exc_obj I.kIn q
  refine wpAny_call_exc_subT F T hC hN hni (fun h' e hm => ?_) (Nat.zero_le _)
  exact L2N.mk_of I hm r h (I.hok.gone hm.new)
/-- what is known of an own exception class without __init__ -/
structure ExC (W : Wd) (mg : Str → Option Value) (x : Str) (nm : String) : Prop where
  g : mg x = some (.ref (W.cls nm))
  e : PySem.W.excIn W.K (W.cls nm) [.type "ValueError", .type "Exception", .type "BaseException", .type "object"] "ValueError.__new__" = true
  k : PySem.W.keepIn W.K (.ref (W.cls nm)) = true
  b : PySem.W.subIn W.K (.ref (W.cls nm)) (.type "BaseException") = some true
  t : PySem.W.typeIn W.K (.ref (W.cls nm)) = some (.type "type")
def wRaise (nm : String) : WS := fun _ _ Y => Y ⟨nm, [], []⟩
theorem ds_raise {x : Str} {nm : String} {p pos pos2 : Pos} (C : DC W E k X) (T : ExC W X.mg x nm) (hg : Gl X x) (hdb : (x == ("__debug__" : Str)) = false := by decide) :
    DS W G0 H0 E X (.Raise (some (.Call (.Name x p) [] [] pos)) none pos2) (wRaise nm) := by
  have hK := C.hK
  refine ⟨fun env D D' Y z w => w, _, L2N.ps_raise C.calm C.tk (pmk_own0 PySem.F.excBase_ValueError (by rw [hK]; exact T.e) T.g (by rw [hK]; exact T.k) (raises_own (by rw [hK]; exact T.b) (by rw [hK]; exact T.t)) hg hdb), fun env σ G H Dv r w => ?_⟩
  exact w _ none G H r.st ⟨rfl, rfl⟩

/-! ### owned lists -/
def wApp (i : Nat) (f : WE) : WS := fun env D Y => ∃ ds, env[i]? = some (.ow ds) ∧ f env (fun d => ds.length < sizeLine ∧ D.nx (env.set i (.ow (ds ++ [d])))) Y
theorem ds_append {i : Nat} {x : Str} {e : Expr} {f : WE} {p ap cp pos : Pos} (hp : ∀ te, PE X e te → PE X (.Call (.Attribute (.Name x p) "append" ap) [e] [] cp) (tBM X.K "list" rAppend (tVar i) (tCons te tNil))) (he : DE W G0 H0 E X e f)
    (hs : swapsWith (.Call (.Attribute (.Name x p) "append" ap) [e] [] cp) none pos.line X.env = pure false := by rfl) : DS W G0 H0 E X (.Expr (.Call (.Attribute (.Name x p) "append" ap) [e] [] cp) pos) (wApp i f) := by
  obtain ⟨m, t, pt, q⟩ := he
  refine ⟨fun env D D' Y z ⟨ds, e, w⟩ => ⟨ds, e, m _ _ _ _ (fun d ⟨l, w⟩ => ⟨l, z.nx _ w⟩) w⟩, _, ps_expr (hp _ pt) hs, fun env σ G H Dv r ⟨ds, ei, w⟩ => ?_⟩
  obtain ⟨a, xs, h1, h2, h3, h4, h5⟩ := r.ow i ds ei
  refine ⟨.ref a, h1, .inl ⟨rfl, _, .inl (.inl h2)⟩, q env σ G H _ r (m _ _ _ _ (fun d w => ?_) w)⟩
  intro v G1 H1 s1 rp
  have r1 := r.step s1
  obtain ⟨a', ys, k1, k2, k3, k4, k5⟩ := r1.ow i ds ei
  rw [h1] at k1
  cases k1
  exact ⟨a, ys, v, rfl, rfl, k2, by rw [k5.length]; exact w.1, w.2 σ G1 _ s1.le (r1.chg ei h1 (k5.append (.cons rp .nil)))⟩
/-- own[e] = f -/
def wSet (i : Nat) (fi f : WE) : WS := fun env D Y => f env (fun d => ∃ ds, env[i]? = some (.ow ds) ∧ fi env (fun j => ∃ k n, j = .int k ∧ ixN ds.length k = some n ∧ D.nx (env.set i (.ow (ds.set n d)))) Y) Y
theorem ds_setItem {i : Nat} {x : Str} {e ix : Expr} {f fi : WE} {p sp pos : Pos} (hp : ∀ te ti, PE X e te → PE X ix ti → PS X (.Assign [.Subscript (.Name x p) ix sp] e pos) (tAsg te (gSub (tVar i) ti rSetL)))
    (hi : DE W G0 H0 E X ix fi) (he : DE W G0 H0 E X e f) : DS W G0 H0 E X (.Assign [.Subscript (.Name x p) ix sp] e pos) (wSet i fi f) := by
  obtain ⟨m, t, pt, q⟩ := he
  obtain ⟨mi, ti, pi, qi⟩ := hi
  refine ⟨fun env D D' Y z w => m _ _ _ _ (fun d ⟨ds, a, w⟩ => ⟨ds, a, mi _ _ _ _ (fun j ⟨k, n, b, c, w⟩ => ⟨k, n, b, c, z.nx _ w⟩) w⟩) w, _, hp _ _ pt pi, fun env σ G H Dv r w => ?_⟩
  refine q env σ G H _ r (m _ _ _ _ (fun d w => ?_) w)
  intro v G1 H1 s1 rp
  have r1 := r.step s1
  obtain ⟨ds, ei, w⟩ := w
  obtain ⟨a, xs, h1, h2, h3, h4, h5⟩ := r1.ow i ds ei
  refine ⟨.ref a, h1, qi env σ G1 H1 _ r1 (mi _ _ _ _ (fun j w => ?_) w)⟩
  obtain ⟨k, n, rfl, en, w⟩ := w
  intro vj G2 H2 s2 rj
  have r2 := r1.step s2
  obtain ⟨a', ys, k1, k2, k3, k4, k5⟩ := r2.ow i ds ei
  rw [h1] at k1
  cases k1
  unfold rep at rj
  exact ⟨a, ys, k, n, rfl, rj, k2, by rw [k5.length]; exact en, w σ G2 _ (s1.le.trans s2.le) (r2.chg ei h1 (k5.set n (rep_mono s2.le _ _ rp)))⟩

/-! ### expressions that change what is owned: own.pop(..) -/
abbrev WX := Env1 → (D → Env1 → Prop) → PX → Prop
structure DX (W : Wd) (G0 H0 : Hp) (E : XK) (X : Cx) (e : Expr) (f : WX) : Prop where
  mono : ∀ env Q Q' Y, (∀ d e, Q d e → Q' d e) → f env Q Y → f env Q' Y
  ex : ∃ t, PE X e t ∧ ∀ env σ G H (Q : VK), RelS W G0 H0 env σ G H → f env (fun d env' => ∀ v G' H', Same G G' → RelS W G0 H0 env' σ G' H' → rep W.K G' d v → Q v H') (XOk W G0 H0 E) → t σ H Q
def wPop (i : Nat) : WX := fun env Q _ => ∃ ds d, env[i]? = some (.ow ds) ∧ ds[ds.length - 1]? = some d ∧ Q d (env.set i (.ow ds.dropLast))
theorem dx_pop {i : Nat} {x : Str} {p ap cp : Pos} (hp : PE X (.Call (.Attribute (.Name x p) "pop" ap) [] [] cp) (tBM0 X.K "list" rPop (tVar i))) : DX W G0 H0 E X (.Call (.Attribute (.Name x p) "pop" ap) [] [] cp) (wPop i) := by
  refine ⟨fun env Q Q' Y z ⟨ds, d, a, b, w⟩ => ⟨ds, d, a, b, z _ _ w⟩, _, hp, fun env σ G H Q r ⟨ds, d, ei, ed, w⟩ => ?_⟩
  obtain ⟨a, xs, h1, h2, h3, h4, h5⟩ := r.ow i ds ei
  obtain ⟨y, e1, e2⟩ := h5.get ed
  rw [← h5.length] at e1
  refine ⟨.ref a, h1, .inl ⟨rfl, _, .inl (.inl h2)⟩, a, xs, y, rfl, rfl, h2, e1, w y G _ (Same.refl _) (r.chg ei h1 ?_) e2⟩
  rw [List.dropLast_eq_take, List.dropLast_eq_take, h5.length]
  exact h5.take _
def wPopAt (i : Nat) (f : WE) : WX := fun env Q Y => ∃ ds, env[i]? = some (.ow ds) ∧ f env (fun j => ∃ k n d, j = .int k ∧ -(2 ^ 63) ≤ k ∧ k < 2 ^ 63 ∧ ixN ds.length k = some n ∧ ds[n]? = some d ∧ Q d (env.set i (.ow (ds.eraseIdx n)))) Y
theorem reps.erase {K : PySem.W.Frag} {G : Hp} : ∀ {ds : List D} {xs : List V} (n : Nat), reps K G ds xs → reps K G (ds.eraseIdx n) (xs.eraseIdx n)
  | [], xs, n, h => by rw [h.nil_eq]; simpa using reps.nil
  | d :: ds, xs, 0, h => by
    obtain ⟨x, r, rfl, h1, h2⟩ := h.uncons
    simpa using h2
  | d :: ds, xs, n + 1, h => by
    obtain ⟨x, r, rfl, h1, h2⟩ := h.uncons
    simpa using reps.cons h1 (h2.erase n)
theorem dx_popAt {i : Nat} {x : Str} {e : Expr} {f : WE} {p ap cp : Pos} (hp : ∀ te, PE X e te → PE X (.Call (.Attribute (.Name x p) "pop" ap) [e] [] cp) (tBM X.K "list" rPopAt (tVar i) (tCons te tNil))) (he : DE W G0 H0 E X e f) :
    DX W G0 H0 E X (.Call (.Attribute (.Name x p) "pop" ap) [e] [] cp) (wPopAt i f) := by
  obtain ⟨m, t, pt, q⟩ := he
  refine ⟨fun env Q Q' Y z ⟨ds, a, w⟩ => ⟨ds, a, m _ _ _ _ (fun j ⟨k, n, d, b, c, c', e, f, w⟩ => ⟨k, n, d, b, c, c', e, f, z _ _ w⟩) w⟩, _, hp _ pt, fun env σ G H Q r ⟨ds, ei, w⟩ => ?_⟩
  obtain ⟨a, xs, h1, h2, h3, h4, h5⟩ := r.ow i ds ei
  refine ⟨.ref a, h1, .inl ⟨rfl, _, .inl (.inl h2)⟩, q env σ G H _ r (m _ _ _ _ (fun d w => ?_) w)⟩
  obtain ⟨k, n, d', rfl, l1, l2, en, ed, w⟩ := w
  intro v G1 H1 s1 rp
  have r1 := r.step s1
  obtain ⟨a', ys, k1, k2, k3, k4, k5⟩ := r1.ow i ds ei
  rw [h1] at k1
  cases k1
  unfold rep at rp
  obtain ⟨y, e1, e2⟩ := k5.get ed
  exact ⟨a, ys, k, n, y, rfl, by rw [rp], k2, l1, l2, (ixN_seq (by rw [k5.length]; exact en)).1, e1, w y G1 _ s1.le (r1.chg ei h1 (k5.erase n)) e2⟩
def wSetX (j : Nat) (f : WX) : WS := fun env D Y => f env (fun d env' => D.nx (env'.set j (.dt d))) Y
theorem ds_setX {i : Nat} {x : Str} {e : Expr} {f : WX} {pos pos' : Pos} (hp : ∀ te, PE X e te → PS X (.Assign [.Name x pos'] e pos) (tAsg te (gName i))) (he : DX W G0 H0 E X e f) :
    DS W G0 H0 E X (.Assign [.Name x pos'] e pos) (wSetX i f) := by
  obtain ⟨m, t, p, q⟩ := he
  refine ⟨fun env D D' X z w => m _ _ _ _ (fun d e w => z.nx _ w) w, _, hp _ p, fun env σ G H Dv r w => ?_⟩
  refine q env σ G H _ r (m _ _ _ _ (fun d e w => ?_) w)
  intro v G1 H1 s1 r1 rp
  exact w _ G1 H1 s1 (r1.set_dt rp)
def wExprX (f : WX) : WS := fun env D Y => f env (fun _ env' => D.nx env') Y
theorem ds_exprX {e : Expr} {f : WX} {pos : Pos} (he : DX W G0 H0 E X e f) (hs : swapsWith e none pos.line X.env = pure false := by rfl) : DS W G0 H0 E X (.Expr e pos) (wExprX f) := by
  obtain ⟨m, t, p, q⟩ := he
  refine ⟨fun env D D' X z w => m _ _ _ _ (fun _ _ w => z.nx _ w) w, _, ps_expr p hs, fun env σ G H Dv r w => ?_⟩
  exact q env σ G H _ r (m _ _ _ _ (fun d e w v G1 H1 s1 r1 rp => w σ G1 H1 s1 r1) w)
def wAppX (i : Nat) (f : WX) : WS := fun env D Y => ∃ ds0, env[i]? = some (.ow ds0) ∧ f env (fun d env' => ∃ ds, env'[i]? = some (.ow ds) ∧ ds.length < sizeLine ∧ D.nx (env'.set i (.ow (ds ++ [d])))) Y
theorem ds_appendX {i : Nat} {x : Str} {e : Expr} {f : WX} {p ap cp pos : Pos} (hp : ∀ te, PE X e te → PE X (.Call (.Attribute (.Name x p) "append" ap) [e] [] cp) (tBM X.K "list" rAppend (tVar i) (tCons te tNil))) (he : DX W G0 H0 E X e f)
    (hs : swapsWith (.Call (.Attribute (.Name x p) "append" ap) [e] [] cp) none pos.line X.env = pure false := by rfl) : DS W G0 H0 E X (.Expr (.Call (.Attribute (.Name x p) "append" ap) [e] [] cp) pos) (wAppX i f) := by
  obtain ⟨m, t, pt, q⟩ := he
  refine ⟨fun env D D' Y z ⟨ds, e, w⟩ => ⟨ds, e, m _ _ _ _ (fun d e ⟨ds, a, l, w⟩ => ⟨ds, a, l, z.nx _ w⟩) w⟩, _, ps_expr (hp _ pt) hs, fun env σ G H Dv r ⟨ds, ei, w⟩ => ?_⟩
  obtain ⟨a, xs, h1, h2, h3, h4, h5⟩ := r.ow i ds ei
  refine ⟨.ref a, h1, .inl ⟨rfl, _, .inl (.inl h2)⟩, q env σ G H _ r (m _ _ _ _ (fun d e w => ?_) w)⟩
  obtain ⟨ds', ei', l, w⟩ := w
  intro v G1 H1 s1 r1 rp
  obtain ⟨a', ys, k1, k2, k3, k4, k5⟩ := r1.ow i ds' ei'
  rw [h1] at k1
  cases k1
  exact ⟨a, ys, v, rfl, rfl, k2, by rw [k5.length]; exact l, w σ G1 _ s1 (r1.chg ei' h1 (k5.append (.cons rp .nil)))⟩
/-- own.extend(a new list) -/
def wExt (i : Nat) (f : WL) : WS := fun env D Y => ∃ ds, env[i]? = some (.ow ds) ∧ f env (fun es => ds.length + es.length ≤ sizeLine ∧ D.nx (env.set i (.ow (ds ++ es)))) Y
theorem ds_extend {i : Nat} {x : Str} {e : Expr} {f : WL} {p ap cp pos : Pos} (hp : ∀ te, PE X e te → PE X (.Call (.Attribute (.Name x p) "extend" ap) [e] [] cp) (tBM X.K "list" rExtend (tVar i) (tCons te tNil))) (he : DF W G0 H0 E X e f)
    (hs : swapsWith (.Call (.Attribute (.Name x p) "extend" ap) [e] [] cp) none pos.line X.env = pure false := by rfl) : DS W G0 H0 E X (.Expr (.Call (.Attribute (.Name x p) "extend" ap) [e] [] cp) pos) (wExt i f) := by
  obtain ⟨m, t, pt, q⟩ := he
  refine ⟨fun env D D' Y z ⟨ds, e, w⟩ => ⟨ds, e, m _ _ _ _ (fun d ⟨l, w⟩ => ⟨l, z.nx _ w⟩) w⟩, _, ps_expr (hp _ pt) hs, fun env σ G H Dv r ⟨ds, ei, w⟩ => ?_⟩
  obtain ⟨a, xs, h1, h2, h3, h4, h5⟩ := r.ow i ds ei
  refine ⟨.ref a, h1, .inl ⟨rfl, _, .inl (.inl h2)⟩, q env σ G H _ r (m _ _ _ _ (fun es w => ?_) w)⟩
  intro p zs G1 H1 s1 n b c rp
  have r1 := r.step s1
  obtain ⟨a', ys, k1, k2, k3, k4, k5⟩ := r1.ow i ds ei
  rw [h1] at k1
  cases k1
  exact ⟨a, p, ys, zs, rfl, rfl, k2, b, by rw [k5.length, rp.length]; exact w.1, w.2 σ G1 _ s1.le (r1.chg ei h1 (k5.append rp))⟩

/-! ### a, b = e1, e2: some of them new lists -/
def repM (W : Wd) (Hb G H : Hp) : List Addr → List Rs → List V → Prop
  | _, [], vs => vs = []
  | ex, .dt d :: rs, vs => ∃ v r, vs = v :: r ∧ rep W.K G d v ∧ repM W Hb G H ex rs r
  | ex, .fr ds :: rs, vs => ∃ p xs r, vs = .ref p :: r ∧ p ∉ ex ∧ H p = some (.lst xs) ∧ G p = none ∧ fr W Hb p ∧ reps W.K G ds xs ∧ repM W Hb G H (p :: ex) rs r
abbrev WM := Env1 → (List Rs → Prop) → PX → Prop
def QM (W : Wd) (G H : Hp) (ex : List Addr) (Q : List V → Hp → Prop) : List Rs → Prop := fun rs => ∀ vs G' H', Gst W G H G' H' → repM W H G' H' ex rs vs → Q vs H'
structure DM (W : Wd) (G0 H0 : Hp) (E : XK) (X : Cx) (es : List Expr) (f : WM) : Prop where
  mono : Mono f
  ex : ∃ t, PA X es t ∧ ∀ env σ G H (ex : List Addr) (Q : List V → Hp → Prop), RelS W G0 H0 env σ G H → (∀ p ∈ ex, ¬ fr W H p) → f env (QM W G H ex Q) (XOk W G0 H0 E) → t σ H Q
def wMNil : WM := fun _ Q _ => Q []
def wMD (f : WE) (g : WM) : WM := fun env Q Y => f env (fun d => g env (fun rs => Q (.dt d :: rs)) Y) Y
def wMF (f : WL) (g : WM) : WM := fun env Q Y => f env (fun ds => g env (fun rs => Q (.fr ds :: rs)) Y) Y
theorem dm_nil : DM W G0 H0 E X [] wMNil := ⟨fun env Q Q' X z w => z _ w, _, pa_nil, fun env σ G H ex Q r _ w => w [] G H (.refl r.gok) rfl⟩
theorem keepNN {a : Addr} (s : Gst W G H G' H') (h : ¬ fr W H a) : ¬ fr W H' a := fun z => h (s.fr z)
theorem repM_base {Hb Hb' : Hp} (hb : ∀ p, fr W Hb' p → fr W Hb p) : ∀ {ex : List Addr} {rs : List Rs} {vs : List V}, repM W Hb' G H ex rs vs → repM W Hb G H ex rs vs
  | _, [], _, h => h
  | ex, .dt d :: rs, _, h => by
    obtain ⟨v, r, e, a, b⟩ := h
    exact ⟨v, r, e, a, repM_base hb b⟩
  | ex, .fr ds :: rs, _, h => by
    obtain ⟨p, xs, r, e, a, b, c, d, f, g⟩ := h
    exact ⟨p, xs, r, e, a, b, c, hb _ d, f, repM_base hb g⟩
theorem dm_d {e : Expr} {es : List Expr} {f : WE} {g : WM} (he : DE W G0 H0 E X e f) (hs : DM W G0 H0 E X es g) (hst : starEach (e :: es) X.env = (false, eval e X.env) :: starEach es X.env := by rfl) : DM W G0 H0 E X (e :: es) (wMD f g) := by
  obtain ⟨ma, ta, pa, qa⟩ := he
  obtain ⟨mb, tb, pb, qb⟩ := hs
  refine ⟨fun env Q Q' X z w => ma _ _ _ _ (fun d w => mb _ _ _ _ (fun ds w => z _ w) w) w, _, pa_cons pa pb hst, fun env σ G H ex Q r hx w => ?_⟩
  refine qa env σ G H _ r (ma _ _ _ _ (fun d w => ?_) w)
  intro v G1 H1 s1 rp
  refine qb env σ G1 H1 ex _ (r.step s1) (fun p hp => keepNN s1 (hx p hp)) (mb _ _ _ _ (fun rs w => ?_) w)
  intro vs G2 H2 s2 rm
  exact w _ G2 H2 (s1.trans s2) ⟨v, vs, rfl, rep_mono s2.le _ _ rp, repM_base (fun p h => s1.fr h) rm⟩
theorem dm_f {e : Expr} {es : List Expr} {f : WL} {g : WM} (he : DF W G0 H0 E X e f) (hs : DM W G0 H0 E X es g) (hst : starEach (e :: es) X.env = (false, eval e X.env) :: starEach es X.env := by rfl) : DM W G0 H0 E X (e :: es) (wMF f g) := by
  obtain ⟨ma, ta, pa, qa⟩ := he
  obtain ⟨mb, tb, pb, qb⟩ := hs
  refine ⟨fun env Q Q' X z w => ma _ _ _ _ (fun d w => mb _ _ _ _ (fun ds w => z _ w) w) w, _, pa_cons pa pb hst, fun env σ G H ex Q r hx w => ?_⟩
  refine qa env σ G H _ r (ma _ _ _ _ (fun d w => ?_) w)
  intro p xs G1 H1 s1 n a b rp
  have m : ¬ W.mem p := n.1
  refine qb env σ G1 H1 (p :: ex) _ (r.step s1) (fun p' hp => ?_) (mb _ _ _ _ (fun rs w => ?_) w)
  · rcases List.mem_cons.mp hp with e | e
    · rw [e]; intro z; exact z.not a lst_tbl
    · exact keepNN s1 (hx p' e)
  · intro vs G2 H2 s2 rm
    refine w _ G2 H2 (s1.trans s2) ⟨p, xs, vs, rfl, fun z => hx p z n, s2.keep _ _ a lst_tbl m, ?_, n, reps_mono s2.le _ _ rp, repM_base (fun p h => s1.fr h) rm⟩
    cases q : G2 p with
    | none => rfl
    | some o =>
      rcases s2.new _ _ q with z | z
      · rw [b] at z; cases z
      · exact (z.not a lst_tbl).elim
def Rs.sl : Rs → Sl
  | .dt d => .dt d
  | .fr ds => .ow ds
/-- one result into a slot; ex: the addresses of lists that have gone into slots or will -/
theorem RelS.set_rs (r : RelS W G0 H0 env σ G H) {i : Nat} {rs : Rs} {v : V} {Hb : Hp} (hb : ∀ p, fr W Hb p → fr W H0 p)
    (h : repR W Hb G H rs v)
    (nw : ∀ (j : Nat) es p, j ≠ i → v = .ref p → (∃ ds, rs = .fr ds) → env[j]? = some (.ow es) → σ[j]? ≠ some (some (.ref p))) : RelS W G0 H0 (env.set i rs.sl) (σ.set i (some v)) G H := by
  cases rs with
  | dt d => exact r.set_dt h
  | fr ds =>
    obtain ⟨p, xs, rfl, a, b, c, d⟩ := h
    exact r.set_ow a b (hb _ c) d fun j es nj ej => nw j es p nj rfl ⟨ds, rfl⟩ ej
def wPar (i j : Nat) (g : WM) : WS := fun env D Y => g env (fun rs => ∃ a b, rs = [a, b] ∧ i ≠ j ∧ D.nx ((env.set i a.sl).set j b.sl)) Y
theorem ds_par {i j : Nat} {st : Stmt} {es : List Expr} {g : WM} (hp : ∀ ta, PA X es ta → PS X st (tPar i j ta)) (ha : DM W G0 H0 E X es g) : DS W G0 H0 E X st (wPar i j g) := by
  obtain ⟨m, t, pt, q⟩ := ha
  refine ⟨fun env D D' Y z w => m _ _ _ _ (fun rs ⟨a, b, e, n, w⟩ => ⟨a, b, e, n, z.nx _ w⟩) w, _, hp _ pt, fun env σ G H Dv r w => ?_⟩
  refine q env σ G H [] _ r (fun p hp => by cases hp) (m _ _ _ _ (fun rs w => ?_) w)
  obtain ⟨a, b, rfl, nij, w⟩ := w
  intro vs G1 H1 s1 rm
  have r1 := r.step s1
  have hb : ∀ p, fr W H p → fr W H0 p := fun p h => r.st.fr h
  have old : ∀ (l : Nat) es p, env[l]? = some (.ow es) → σ[l]? = some (some (.ref p)) → ¬ fr W H p := fun l es p e1 e2 z => by
    obtain ⟨p', xs, k1, k2, _⟩ := r.ow l es e1
    rw [e2] at k1; cases k1
    exact z.not k2 lst_tbl
  -- the two values
  have key : ∃ v1 v2, vs = [v1, v2] ∧ repR W H G1 H1 a v1 ∧ repR W H G1 H1 b v2 ∧ ((∃ ds, a = .fr ds) → (∃ ds, b = .fr ds) → v1 ≠ v2) := by
    cases a with
    | dt d =>
      obtain ⟨v, r', e1, rp, rm⟩ := rm
      cases b with
      | dt d2 =>
        obtain ⟨v2, r2, e2, rp2, rm2⟩ := rm
        have rm2' : r2 = [] := rm2
        subst e1 e2 rm2'
        exact ⟨v, v2, rfl, rp, rp2, fun ⟨_, z⟩ => by cases z⟩
      | fr ds2 =>
        obtain ⟨p, xs, r2, e2, _, k1, k2, k3, k4, rm2⟩ := rm
        have rm2' : r2 = [] := rm2
        subst e1 e2 rm2'
        exact ⟨v, .ref p, rfl, rp, ⟨p, xs, rfl, k1, k2, k3, k4⟩, fun ⟨_, z⟩ => by cases z⟩
    | fr ds =>
      obtain ⟨p, xs, r', e1, _, k1, k2, k3, k4, rm⟩ := rm
      cases b with
      | dt d2 =>
        obtain ⟨v2, r2, e2, rp2, rm2⟩ := rm
        have rm2' : r2 = [] := rm2
        subst e1 e2 rm2'
        exact ⟨.ref p, v2, rfl, ⟨p, xs, rfl, k1, k2, k3, k4⟩, rp2, fun _ ⟨_, z⟩ => by cases z⟩
      | fr ds2 =>
        obtain ⟨p2, xs2, r2, e2, np, l1, l2, l3, l4, rm2⟩ := rm
        have rm2' : r2 = [] := rm2
        subst e1 e2 rm2'
        exact ⟨.ref p, .ref p2, rfl, ⟨p, xs, rfl, k1, k2, k3, k4⟩, ⟨p2, xs2, rfl, l1, l2, l3, l4⟩, fun _ _ z => np (by cases z; exact List.mem_cons_self)⟩
  obtain ⟨v1, v2, rfl, ha1, hb1, hne⟩ := key
  have ra := r1.set_rs (i := i) hb ha1 fun l es p nl ev ⟨ds, ea⟩ el z => by
    subst ea
    obtain ⟨p', xs, e1, _, _, n, _⟩ := ha1
    rw [ev] at e1; cases e1
    exact old l es p el z n
  refine ⟨v1, v2, rfl, w _ G1 H1 s1.le (ra.set_rs (i := j) hb hb1 fun l es p nl ev ⟨ds, eb⟩ el z => ?_)⟩
  subst eb
  obtain ⟨p', xs, e1, _, _, n, _⟩ := hb1
  rw [ev] at e1; cases e1
  by_cases hl : i = l
  · subst hl
    have li : i < env.length := by
      have := (List.getElem?_eq_some_iff.mp el).1
      rwa [List.length_set] at this
    rw [List.getElem?_set_self li] at el
    rw [List.getElem?_set_self (by rw [r1.len]; exact li)] at z
    cases a with
    | dt d => cases el
    | fr ds' =>
      refine hne ⟨_, rfl⟩ ⟨_, rfl⟩ ?_
      rw [ev]
      exact Option.some.inj (Option.some.inj z)
  · rw [List.getElem?_set_ne hl] at el z
    exact old l es p el z n
end
end DL
/-! operators, comparisons, subscripts -/
namespace DL
open PySem PySem.Spec PyProof.Rows L2
section
variable {W : Wd} {G0 H0 G G' H H' : Hp} {E : XK} {X : Cx} {k n : Nat} {env : Env1} {σ : L2.St}
theorem rep_int {K : PySem.W.Frag} {i : Int} {v : V} (h : rep K G (.int i) v) : v = .int i := by unfold rep at h; exact h
theorem rep_int' {K : PySem.W.Frag} {i : Int} : rep K G (.int i) (.int i) := by unfold rep; rfl
theorem rep_str {K : PySem.W.Frag} {i : List Nat} {v : V} (h : rep K G (.str i) v) : v = .str (zs i) := by unfold rep at h; exact h
theorem rep_str' {K : PySem.W.Frag} {i : List Nat} : rep K G (.str i) (.str (zs i)) := by unfold rep; rfl
theorem rep_non {K : PySem.W.Frag} {v : V} (h : rep K G .non v) : v = .non := by unfold rep at h; exact h
theorem rep_non' {K : PySem.W.Frag} : rep K G .non .non := by unfold rep; rfl
theorem rep_lst {K : PySem.W.Frag} {ds : List D} {v : V} (h : rep K G (.lst ds) v) : ∃ a xs, v = .ref a ∧ G a = some (.lst xs) ∧ reps K G ds xs := by unfold rep at h; exact h
theorem rep_tup {K : PySem.W.Frag} {ds : List D} {v : V} (h : rep K G (.tup ds) v) : ∃ a xs, v = .ref a ∧ SqT K G a xs ∧ reps K G ds xs := by unfold rep at h; exact h
theorem rep_vr {K : PySem.W.Frag} {u v : V} (h : rep K G (.vr u) v) : v = u := by unfold rep at h; exact h
theorem zs_len (s : List Nat) : (zs s).length = s.length := by simp [zs, Str.length]
theorem zs_list (s : List Nat) : (zs s).cps.toList = s := by simp [zs]
theorem zs_inj {s t : List Nat} : zs s = zs t ↔ s = t := by
  constructor
  · intro h
    have := congrArg (fun z : Str => z.cps.toList) h
    simpa using this
  · intro h; rw [h]
theorem zs_app (s t : List Nat) : (⟨(zs s).cps ++ (zs t).cps⟩ : Str) = zs (s ++ t) := by simp [zs]
/-- a new tuple, a new list as data -/
theorem QE.tup {Q : VK} {ds : List D} {xs : List V} (g : GOk W G H) (r : reps W.K G ds xs) (h : QE W G H Q (.tup ds)) : ∀ p, H p = none → Q (.ref p) (upd H p (.tup xs)) := fun p hp => by
  refine h _ _ _ (Gst.alloc g _ hp) ?_
  unfold rep
  exact ⟨p, xs, rfl, .inl (.inl upd_same), reps_mono (same_new (g.nn hp)) _ _ r⟩
theorem QE.lst {Q : VK} {ds : List D} {xs : List V} (g : GOk W G H) (r : reps W.K G ds xs) (h : QE W G H Q (.lst ds)) : ∀ p, H p = none → Q (.ref p) (upd H p (.lst xs)) := fun p hp => by
  refine h _ _ _ (Gst.alloc g _ hp) ?_
  unfold rep
  exact ⟨p, xs, rfl, upd_same, reps_mono (same_new (g.nn hp)) _ _ r⟩
theorem QF.lst {Q : VK} {ds : List D} {xs : List V} (g : GOk W G H) (r : reps W.K G ds xs) (h : QF W G H Q ds) : ∀ p, H p = none → Q (.ref p) (upd H p (.lst xs)) := fun p hp =>
  h p xs G _ (Gst.hid g _ hp) (g.w.fr hp) upd_same (g.nn hp) r
theorem QE.here {Q : VK} {d : D} {v : V} (g : GOk W G H) (r : rep W.K G d v) (h : QE W G H Q d) : Q v H := h v G H (.refl g) r

/-! ### numbers -/
def gI (C : Int → Int → Prop) (f : Int → Int → D) : D → D → PD → Prop := fun a b Q => ∃ i j, a = .int i ∧ b = .int j ∧ C i j ∧ Q (f i j)
theorem lift_I {C : Int → Int → Prop} {f : Int → Int → V} {fd : Int → Int → D} (hr : ∀ K G i j, rep K G (fd i j) (f i j)) : Lift2 W (rI C f) (gI C fd) :=
  ⟨fun a b Q Q' z ⟨i, j, e1, e2, c, q⟩ => ⟨i, j, e1, e2, c, z _ q⟩, fun G H x y a b Q g rx ry ⟨i, j, e1, e2, c, q⟩ => by
    subst e1 e2
    exact ⟨i, j, rep_int rx, rep_int ry, c, q.here g (hr _ _ _ _)⟩⟩
def gI0 (f : Int → Int → D) : D → D → PD → Prop := fun a b Q => ∃ i j, a = .int i ∧ b = .int j ∧ Q (f i j)
theorem lift_I0 {f : Int → Int → V} {fd : Int → Int → D} (hr : ∀ K G i j, rep K G (fd i j) (f i j)) : Lift2 W (rI0 f) (gI0 fd) :=
  ⟨fun a b Q Q' z ⟨i, j, e1, e2, q⟩ => ⟨i, j, e1, e2, z _ q⟩, fun G H x y a b Q g rx ry ⟨i, j, e1, e2, q⟩ => by
    subst e1 e2
    exact ⟨i, j, rep_int rx, rep_int ry, q.here g (hr _ _ _ _)⟩⟩
theorem lift_sub : Lift2 W (rI0 fun i j => .int (i - j)) (gI0 fun i j => .int (i - j)) := lift_I0 fun _ _ _ _ => rep_int'
theorem lift_fdiv : Lift2 W (rI CDivN fun i j => .int (i.fdiv j)) (gI CDivN fun i j => .int (i.fdiv j)) := lift_I fun _ _ _ _ => rep_int'
theorem lift_mod : Lift2 W (rI (fun _ j => j ≠ 0) fun i j => .int (i.fmod j)) (gI (fun _ j => j ≠ 0) fun i j => .int (i.fmod j)) := lift_I fun _ _ _ _ => rep_int'
theorem lift_pow : Lift2 W (rI CPow fun i j => .int (i ^ j.toNat)) (gI CPow fun i j => .int (i ^ j.toNat)) := lift_I fun _ _ _ _ => rep_int'
theorem lift_shl : Lift2 W (rI CPow fun i j => .int (i * 2 ^ j.toNat)) (gI CPow fun i j => .int (i * 2 ^ j.toNat)) := lift_I fun _ _ _ _ => rep_int'
theorem lift_shr : Lift2 W (rI (fun _ j => 0 ≤ j) fun i j => .int (i / 2 ^ j.toNat)) (gI (fun _ j => 0 ≤ j) fun i j => .int (i / 2 ^ j.toNat)) := lift_I fun _ _ _ _ => rep_int'
theorem lift_and : Lift2 W (rI0 fun i j => .int (Builtin.bitAnd i j)) (gI0 fun i j => .int (Builtin.bitAnd i j)) := lift_I0 fun _ _ _ _ => rep_int'
theorem lift_or : Lift2 W (rI0 fun i j => .int (Builtin.bitOr i j)) (gI0 fun i j => .int (Builtin.bitOr i j)) := lift_I0 fun _ _ _ _ => rep_int'
def gU (f : Int → D) : D → PD → Prop := fun a Q => ∃ i, a = .int i ∧ Q (f i)
theorem lift_neg : Lift1 W (rU fun i => .int (-i)) (gU fun i => .int (-i)) :=
  ⟨fun a Q Q' z ⟨i, e, q⟩ => ⟨i, e, z _ q⟩, fun G H x a Q g rx ⟨i, e, q⟩ => by subst e; exact ⟨i, rep_int rx, q.here g rep_int'⟩⟩

/-! ### + -/
def addD : D → D → PD → Prop
  | .int i, .int j, Q => Q (.int (i + j))
  | .str s, .str t, Q => s.length + t.length ≤ sizeLine ∧ Q (.str (s ++ t))
  | .lst xs, .lst ys, Q => xs.length + ys.length ≤ sizeLine ∧ Q (.lst (xs ++ ys))
  | .tup xs, .tup ys, Q => xs.length + ys.length ≤ sizeLine ∧ Q (.tup (xs ++ ys))
  | _, _, _ => False
def rAddA (K : PySem.W.Frag) : R2 := fun x y H Q => (rI0 (fun i j => .int (i + j)) x y H Q ∨ (∃ i j, x = .str i ∧ y = .str j ∧ i.length + j.length ≤ sizeLine ∧ Q (.str ⟨i.cps ++ j.cps⟩) H)) ∨ rCat x y H Q ∨ rCatA K x y H Q
theorem op_addA : OpR X (binaryOp .Add) (rAddA X.K) := (op_add.or op_add_str).or (op_cat.or op_catA)
theorem lift_add : Lift2 W (rAddA W.K) addD := by
  refine ⟨fun a b Q Q' z h => ?_, fun G H x y a b Q g rx ry h => ?_⟩
  · cases a <;> cases b <;> first | exact z _ h | exact ⟨h.1, z _ h.2⟩ | exact h
  · cases a <;> cases b <;> first | exact False.elim h | skip
    · exact .inl (.inl ⟨_, _, rep_int rx, rep_int ry, QE.here g rep_int' h⟩)
    · refine .inl (.inr ⟨_, _, rep_str rx, rep_str ry, by rw [zs_len, zs_len]; exact h.1, ?_⟩)
      rw [zs_app]
      exact h.2.here g rep_str'
    · obtain ⟨p, xs, rfl, hs, r1⟩ := rep_tup rx
      obtain ⟨q, ys, rfl, ht, r2⟩ := rep_tup ry
      refine .inr (.inr ⟨p, q, xs, ys, rfl, rfl, Same.sqT g.le hs, Same.sqT g.le ht, by rw [r1.length, r2.length]; exact h.1, fun e => ?_, fun _ e => ?_, fun _ _ => h.2.tup g (r1.append r2)⟩)
      · subst e
        have e0 : _ = [] := List.eq_nil_of_length_eq_zero (r1.length.symm.trans rfl)
        subst e0
        exact h.2.here g (by rw [List.nil_append]; exact ry)
      · subst e
        have e0 : _ = [] := List.eq_nil_of_length_eq_zero (r2.length.symm.trans rfl)
        subst e0
        exact h.2.here g (by rw [List.append_nil]; exact rx)
    · obtain ⟨p, xs, rfl, hs, r1⟩ := rep_lst rx
      obtain ⟨q, ys, rfl, ht, r2⟩ := rep_lst ry
      exact .inr (.inl ⟨p, q, xs, ys, rfl, rfl, g.le _ _ hs, g.le _ _ ht, by rw [r1.length, r2.length]; exact h.1, h.2.lst g (r1.append r2)⟩)
theorem de_add {a b : Expr} {fa fb : WE} {pos : Pos} (B : DB0 W X) (ha : DE W G0 H0 E X a fa) (hb : DE W G0 H0 E X b fb) : DE W G0 H0 E X (.BinOp a .Add b pos) (wOp2 addD fa fb) :=
  de_op (by rw [← B.hK]; exact op_addA) lift_add ha hb
/-- lists that are read: a new list -/
def wCatF (fa fb : WL) : WL := fun env Q Y => fa env (fun a => fb env (fun b => a.length + b.length ≤ sizeLine ∧ Q (a ++ b)) Y) Y
theorem df_cat {a b : Expr} {fa fb : WL} {pos : Pos} (ha : DLs W G0 H0 E X a fa) (hb : DLs W G0 H0 E X b fb) : DF W G0 H0 E X (.BinOp a .Add b pos) (wCatF fa fb) := by
  obtain ⟨ma, ta, pa, qa⟩ := ha
  obtain ⟨mb, tb, pb, qb⟩ := hb
  refine ⟨fun env Q Q' Y z w => ma _ _ _ _ (fun a w => mb _ _ _ _ (fun b ⟨l, w⟩ => ⟨l, z _ w⟩) w) w, _, pe_op op_cat pa pb, fun env σ G H Q r w => ?_⟩
  refine qa env σ G H _ r (ma _ _ _ _ (fun a w => ?_) w)
  intro x G1 H1 s1 l1
  refine qb env σ G1 H1 _ (r.step s1) (mb _ _ _ _ (fun b w => ?_) w)
  intro y G2 H2 s2 l2
  obtain ⟨p, xs, rfl, a1, _, r1⟩ := l1.step s2
  obtain ⟨q, ys, rfl, a2, _, r2⟩ := l2
  exact ⟨p, q, xs, ys, rfl, rfl, a1, a2, by rw [r1.length, r2.length]; exact w.1, QF.lst s2.gok (r1.append r2) (QF.step (s1.trans s2) w.2)⟩

/-! ### * -/
theorem foldl_app (x : Array Nat) : ∀ (n : Nat) (acc : Array Nat), ((List.replicate n x).foldl (· ++ ·) acc).toList = acc.toList ++ (List.replicate n x.toList).flatten
  | 0, acc => by simp
  | n + 1, acc => by
    rw [List.replicate_succ, List.foldl_cons, foldl_app x n, List.replicate_succ, List.flatten_cons, Array.toList_append, List.append_assoc]
theorem rep_one {α : Type} (l : List α) : (List.replicate 1 l).flatten = l := by simp
theorem rep_nil {α : Type} (n : Nat) : (List.replicate n ([] : List α)).flatten = [] := by
  induction n with
  | zero => rfl
  | succ n ih => rw [List.replicate_succ, List.flatten_cons, ih]; rfl
def rMulS : R2 := fun x y H Q => ∃ (s : List Nat) (i : Int), x = .str (zs s) ∧ y = .int i ∧ -(2 ^ 63) ≤ i ∧ i < 2 ^ 63 ∧ s.length * i.toNat ≤ sizeLine ∧ Q (.str (zs (List.replicate i.toNat s).flatten)) H
theorem op_mulS : OpR X (binaryOp .Mult) rMulS := by
  intro pins s σ H x y v u Q I rx ry h
  obtain ⟨z, i, rfl, rfl, h0, h1, hl, q⟩ := h
  obtain ⟨t, rfl⟩ := rx
  obtain ⟨t', rfl⟩ := ry
  have hz : (zs z).length = z.length := zs_len z
  refine P.mul_str (by rw [decide_eq_false (by omega), decide_eq_false (by omega)]; rfl) (fun hn _ => ?_) (fun hn _ => ?_) ?_
  · intro hgt
    rw [hz] at hgt
    have hi : 0 < i := by omega
    have h2 : (z.length : Int) * i ≤ 2 ^ 63 - 1 := by
      have e : ((z.length * i.toNat : Nat) : Int) = (z.length : Int) * i := by
        rw [Int.natCast_mul, Int.toNat_of_nonneg (by omega)]
      have h3 : z.length * i.toNat ≤ 16777216 := by rw [sizeLine_eq] at hl; exact hl
      omega
    have := (Int.le_ediv_iff_mul_le hi).mpr h2
    omega
  · rw [hz]
    unfold Builtin.Str.tooLong
    exact decide_eq_false (by omega)
  · by_cases hn : i < 1
    · rw [if_pos hn]
      have e0 : i.toNat = 0 := by omega
      rw [e0] at q
      refine ⟨by decide, ?_⟩
      exact ⟨.str (zs []), H, I.tok _, ⟨_, rfl⟩, q⟩
    · rw [if_neg hn]
      by_cases hc : (i == 1 || (zs z).length == 0) = true
      · rw [if_pos hc]
        have e : (List.replicate i.toNat z).flatten = z := by
          rcases Bool.or_eq_true_iff.mp hc with c | c
          · have : i = 1 := by simpa using c
            subst this; exact rep_one z
          · have : z = [] := by rw [hz] at c; simpa using c
            subst this; exact rep_nil _
        rw [e] at q
        exact ⟨.str (zs z), H, I, ⟨_, rfl⟩, q⟩
      · rw [if_neg hc]
        have e : (⟨(List.replicate i.toNat (zs z).cps).foldl (· ++ ·) #[]⟩ : Str) = zs (List.replicate i.toNat z).flatten := by
          have := foldl_app (zs z).cps i.toNat #[]
          rw [show (zs z).cps.toList = z from zs_list z] at this
          unfold zs
          congr 1
          apply Array.toList_inj.mp
          rw [this]; simp
        rw [e]
        refine ⟨?_, .str _, H, I.tok _, ⟨_, rfl⟩, q⟩
        rw [zs_len, List.length_flatten, List.map_replicate, List.sum_replicate_nat, Nat.mul_comm]
        exact hl
def mulD : D → D → PD → Prop
  | .int i, .int j, Q => CMul i j ∧ Q (.int (i * j))
  | .str s, .int i, Q => -(2 ^ 63) ≤ i ∧ i < 2 ^ 63 ∧ s.length * i.toNat ≤ sizeLine ∧ Q (.str (List.replicate i.toNat s).flatten)
  | .lst s, .int i, Q => -(2 ^ 63) ≤ i ∧ i < 2 ^ 63 ∧ s.length * i.toNat ≤ sizeLine ∧ Q (.lst (List.replicate i.toNat s).flatten)
  | _, _, _ => False
def rMulA : R2 := fun x y H Q => (rI CMul (fun i j => .int (i * j)) x y H Q ∨ rMulS x y H Q) ∨ rRep x y H Q
theorem op_mulA : OpR X (binaryOp .Mult) rMulA := (op_mul.or op_mulS).or op_rep
theorem lift_mul : Lift2 W rMulA mulD := by
  refine ⟨fun a b Q Q' z h => ?_, fun G H x y a b Q g rx ry h => ?_⟩
  · cases a <;> cases b <;> first | exact ⟨h.1, z _ h.2⟩ | exact ⟨h.1, h.2.1, h.2.2.1, z _ h.2.2.2⟩ | exact h
  · cases a <;> cases b <;> first | exact False.elim h | skip
    · exact .inl (.inl ⟨_, _, rep_int rx, rep_int ry, h.1, h.2.here g rep_int'⟩)
    · exact .inl (.inr ⟨_, _, rep_str rx, rep_int ry, h.1, h.2.1, h.2.2.1, h.2.2.2.here g rep_str'⟩)
    · obtain ⟨p, xs, rfl, hs, r1⟩ := rep_lst rx
      exact .inr ⟨p, _, xs, rfl, rep_int ry, g.le _ _ hs, h.1, h.2.1, by rw [r1.length]; exact h.2.2.1, h.2.2.2.lst g r1.flat⟩
def wRepF (fa : WL) (fb : WE) : WL := fun env Q Y => fa env (fun a => fb env (fun b => ∃ i : Int, b = .int i ∧ -(2 ^ 63) ≤ i ∧ i < 2 ^ 63 ∧ a.length * i.toNat ≤ sizeLine ∧ Q (List.replicate i.toNat a).flatten) Y) Y
theorem df_rep {a b : Expr} {fa : WL} {fb : WE} {pos : Pos} (ha : DLs W G0 H0 E X a fa) (hb : DE W G0 H0 E X b fb) : DF W G0 H0 E X (.BinOp a .Mult b pos) (wRepF fa fb) := by
  obtain ⟨ma, ta, pa, qa⟩ := ha
  obtain ⟨mb, tb, pb, qb⟩ := hb
  refine ⟨fun env Q Q' Y z w => ma _ _ _ _ (fun a w => mb _ _ _ _ (fun b ⟨i, e, h0, h1, l, w⟩ => ⟨i, e, h0, h1, l, z _ w⟩) w) w, _, pe_op op_rep pa pb, fun env σ G H Q r w => ?_⟩
  refine qa env σ G H _ r (ma _ _ _ _ (fun a w => ?_) w)
  intro x G1 H1 s1 l1
  refine qb env σ G1 H1 _ (r.step s1) (mb _ _ _ _ (fun b w => ?_) w)
  intro y G2 H2 s2 rb
  obtain ⟨p, xs, rfl, a1, _, r1⟩ := l1.step s2
  obtain ⟨i, rfl, h0, h1, l, w⟩ := w
  exact ⟨p, i, xs, rfl, rep_int rb, a1, h0, h1, by rw [r1.length]; exact l, QF.lst s2.gok r1.flat (QF.step (s1.trans s2) w)⟩
theorem de_mul {a b : Expr} {fa fb : WE} {pos : Pos} (ha : DE W G0 H0 E X a fa) (hb : DE W G0 H0 E X b fb) : DE W G0 H0 E X (.BinOp a .Mult b pos) (wOp2 mulD fa fb) := de_op op_mulA lift_mul ha hb

/-! ### comparisons -/
theorem lift_lt : Lift2 W (rI0 fun i j => .bl (decide (i < j))) (gI0 fun i j => .bl (decide (i < j))) := lift_I0 fun _ _ _ _ => rep_bl'
theorem lift_le : Lift2 W (rI0 fun i j => .bl (decide (i ≤ j))) (gI0 fun i j => .bl (decide (i ≤ j))) := lift_I0 fun _ _ _ _ => rep_bl'
theorem lift_gt : Lift2 W (rI0 fun i j => .bl (decide (j < i))) (gI0 fun i j => .bl (decide (j < i))) := lift_I0 fun _ _ _ _ => rep_bl'
theorem lift_ge : Lift2 W (rI0 fun i j => .bl (decide (j ≤ i))) (gI0 fun i j => .bl (decide (j ≤ i))) := lift_I0 fun _ _ _ _ => rep_bl'
/-! data as the library's plain data -/
mutual
def pyOf : D → PyData
  | .non => .none
  | .bl b => .bool b
  | .int i => .int i
  | .str s => .str (zs s)
  | .vr _ => .none
  | .tup ds => .tuple (pyOfs ds)
  | .lst ds => .list (pyOfs ds)
  | .dct _ _ => .none
def pyOfs : List D → List PyData
  | [] => []
  | d :: ds => pyOf d :: pyOfs ds
end
mutual
def flatOk : D → Bool
  | .vr _ => false
  | .dct _ _ => false
  | .tup ds => flatOks ds
  | .lst ds => flatOks ds
  | _ => true
def flatOks : List D → Bool
  | [] => true
  | d :: ds => flatOk d && flatOks ds
end
/-- may be compared -/
def okD (d : D) : Bool := flatOk d && SeqAt.shaped (pyOf d)
def eqD (a b : D) : Bool := PyData.eqv (pyOf a) (pyOf b)
mutual
theorem dp_of {K : PySem.W.Frag} (e : Same G H) : ∀ (d : D) (v : V), flatOk d = true → rep K G d v → Dp K H v (pyOf d)
  | .non, v, _, h => by rw [rep_non h]; unfold pyOf; exact .non
  | .bl b, v, _, h => by rw [rep_bl h]; unfold pyOf; exact .bl b
  | .int b, v, _, h => by rw [rep_int h]; unfold pyOf; exact .int b
  | .str b, v, _, h => by rw [rep_str h]; unfold pyOf; exact .str _
  | .vr b, v, f, h => by unfold flatOk at f; cases f
  | .dct _ _, v, f, h => by unfold flatOk at f; cases f
  | .tup ds, v, f, h => by
    obtain ⟨a, xs, rfl, hs, r⟩ := rep_tup h
    unfold pyOf
    unfold flatOk at f
    exact .tup (Same.sqT e hs) (dps_of e ds xs f r)
  | .lst ds, v, f, h => by
    obtain ⟨a, xs, rfl, hs, r⟩ := rep_lst h
    unfold pyOf
    unfold flatOk at f
    exact .lst (.inl (.inl (e _ _ hs))) (dps_of e ds xs f r)
theorem dps_of {K : PySem.W.Frag} (e : Same G H) : ∀ (ds : List D) (xs : List V), flatOks ds = true → reps K G ds xs → DpAll K H xs (pyOfs ds)
  | [], xs, _, h => by rw [h.nil_eq]; unfold pyOfs; exact .nil
  | d :: ds, xs, f, h => by
    obtain ⟨x, r, rfl, h1, h2⟩ := h.uncons
    unfold pyOfs
    unfold flatOks at f
    rw [Bool.and_eq_true] at f
    exact .cons (dp_of e d x f.1 h1) (dps_of e ds r f.2 h2)
end
def gEq (neg : Bool) : D → D → PD → Prop := fun a b Q => okD a = true ∧ okD b = true ∧ Q (.bl (if neg then !eqD a b else eqD a b))
theorem lift_eq : Lift2 W (rEqD W.K) (gEq false) :=
  ⟨fun a b Q Q' z ⟨h1, h2, q⟩ => ⟨h1, h2, z _ q⟩, fun G H x y a b Q g rx ry ⟨h1, h2, q⟩ => by
    unfold okD at h1 h2
    rw [Bool.and_eq_true] at h1 h2
    exact ⟨_, _, dp_of g.le a x h1.1 rx, dp_of g.le b y h2.1 ry, h1.2, h2.2, q.here g rep_bl'⟩⟩
theorem lift_ne : Lift2 W (rNeD W.K) (gEq true) :=
  ⟨fun a b Q Q' z ⟨h1, h2, q⟩ => ⟨h1, h2, z _ q⟩, fun G H x y a b Q g rx ry ⟨h1, h2, q⟩ => by
    unfold okD at h1 h2
    rw [Bool.and_eq_true] at h1 h2
    exact ⟨_, _, dp_of g.le a x h1.1 rx, dp_of g.le b y h2.1 ry, h1.2, h2.2, q.here g rep_bl'⟩⟩
theorem op_eqX (B : DB0 W X) : OpR X (compareOp .Eq) (rEqD W.K) := by rw [← B.hK]; exact op_eqD B.un
theorem op_neX (B : DB0 W X) : OpR X (compareOp .NotEq) (rNeD W.K) := by rw [← B.hK]; exact op_neD B.un
/-- x is None, x is not None -/
def isNon : D → Bool
  | .non => true
  | .vr v => decide (v = V.non)
  | _ => false
theorem isNon_rep {K : PySem.W.Frag} {d : D} {v : V} (h : rep K G d v) : decide (v = V.non) = isNon d := by
  cases d with
  | non => rw [rep_non h]; rfl
  | bl b => rw [rep_bl h]; rfl
  | int b => rw [rep_int h]; rfl
  | str b => rw [rep_str h]; rfl
  | vr u => rw [rep_vr h]; rfl
  | tup ds => obtain ⟨a, xs, rfl, _⟩ := rep_tup h; rfl
  | lst ds => obtain ⟨a, xs, rfl, _⟩ := rep_lst h; rfl
  | dct ks ds => unfold rep at h; obtain ⟨a, xs, rfl, _⟩ := h; rfl
def gIsN (neg : Bool) : D → D → PD → Prop := fun a b Q => b = .non ∧ Q (.bl (if neg then !isNon a else isNon a))
theorem lift_isN : Lift2 W (fun x y H Q => y = .non ∧ Q (.bl (decide (x = .non))) H) (gIsN false) :=
  ⟨fun a b Q Q' z ⟨h1, q⟩ => ⟨h1, z _ q⟩, fun G H x y a b Q g rx ry ⟨h1, q⟩ => by
    subst h1
    refine ⟨rep_non ry, ?_⟩
    rw [isNon_rep rx]
    exact q.here g rep_bl'⟩
theorem lift_notN : Lift2 W (fun x y H Q => y = .non ∧ Q (.bl (!decide (x = .non))) H) (gIsN true) :=
  ⟨fun a b Q Q' z ⟨h1, q⟩ => ⟨h1, z _ q⟩, fun G H x y a b Q g rx ry ⟨h1, q⟩ => by
    subst h1
    refine ⟨rep_non ry, ?_⟩
    rw [isNon_rep rx]
    exact q.here g rep_bl'⟩
/-- x is True, x is not True, both truths -/
def gIsB (neg : Bool) : D → D → PD → Prop := fun a b Q => ∃ i j : Bool, a = .bl i ∧ b = .bl j ∧ Q (.bl (if neg then !decide (i = j) else decide (i = j)))
theorem lift_isB : Lift2 W rIsB (gIsB false) :=
  ⟨fun a b Q Q' z ⟨i, j, h1, h2, q⟩ => ⟨i, j, h1, h2, z _ q⟩, fun G H x y a b Q g rx ry ⟨i, j, h1, h2, q⟩ => by
    subst h1 h2
    exact ⟨i, j, rep_bl rx, rep_bl ry, q.here g rep_bl'⟩⟩
theorem lift_notB : Lift2 W rNotB (gIsB true) :=
  ⟨fun a b Q Q' z ⟨i, j, h1, h2, q⟩ => ⟨i, j, h1, h2, z _ q⟩, fun G H x y a b Q g rx ry ⟨i, j, h1, h2, q⟩ => by
    subst h1 h2
    exact ⟨i, j, rep_bl rx, rep_bl ry, q.here g rep_bl'⟩⟩
/-- one sign in a text; a flat thing in a list or tuple of such -/
def flatD : D → Bool
  | .non | .bl _ | .int _ | .str _ => true
  | _ => false
def eqF : D → D → Bool
  | .non, .non => true
  | .bl a, .bl b => a == b
  | .bl a, .int b => (if a then 1 else 0) == b
  | .int a, .bl b => a == (if b then 1 else 0)
  | .int a, .int b => a == b
  | .str a, .str b => a == b
  | _, _ => false
theorem flat_rep {K : PySem.W.Frag} {d : D} {v : V} (f : flatD d = true) (h : rep K G d v) : flatV v = true := by
  cases d <;> first | (simp [flatD] at f; done) | skip
  · rw [rep_non h]; rfl
  · rw [rep_bl h]; rfl
  · rw [rep_int h]; rfl
  · rw [rep_str h]; rfl
theorem eqF_rep {K : PySem.W.Frag} {a b : D} {x y : V} (fa : flatD a = true) (fb : flatD b = true) (ha : rep K G a x) (hb : rep K G b y) : eqV x y = eqF a b := by
  cases a <;> first | (simp [flatD] at fa; done) | skip
  all_goals cases b <;> first | (simp [flatD] at fb; done) | skip
  all_goals (first | rw [rep_non ha] | rw [rep_bl ha] | rw [rep_int ha] | rw [rep_str ha])
  all_goals (first | rw [rep_non hb] | rw [rep_bl hb] | rw [rep_int hb] | rw [rep_str hb])
  all_goals first | rfl | skip
  show (zs _ == zs _) = (_ == _)
  rw [Bool.beq_eq_decide_eq, Bool.beq_eq_decide_eq, decide_eq_decide]
  exact zs_inj
theorem flats_rep {K : PySem.W.Frag} : ∀ {ds : List D} {xs : List V}, ds.all flatD = true → reps K G ds xs → xs.all flatV = true
  | [], xs, _, h => by rw [h.nil_eq]; rfl
  | d :: ds, xs, f, h => by
    obtain ⟨x, r, rfl, h1, h2⟩ := h.uncons
    rw [List.all_cons, Bool.and_eq_true] at f ⊢
    exact ⟨flat_rep f.1 h1, flats_rep f.2 h2⟩
theorem any_rep {K : PySem.W.Frag} {d : D} {v : V} (fd : flatD d = true) (hv : rep K G d v) : ∀ {ds : List D} {xs : List V}, ds.all flatD = true → reps K G ds xs → inV v xs = ds.any fun y => eqF y d
  | [], xs, _, h => by rw [h.nil_eq]; rfl
  | d' :: ds, xs, f, h => by
    obtain ⟨x, r, rfl, h1, h2⟩ := h.uncons
    rw [List.all_cons, Bool.and_eq_true] at f
    have ih := any_rep fd hv f.2 h2
    unfold inV at ih ⊢
    rw [List.any_cons, List.any_cons, eqF_rep f.1 fd h1 hv, ih]
def inD (neg : Bool) : D → D → PD → Prop
  | .str [c], .str s, Q => Q (.bl (if neg then !decide (c ∈ s) else decide (c ∈ s)))
  | d, .lst ds, Q => flatD d = true ∧ ds.all flatD = true ∧ Q (.bl (if neg then !(ds.any fun y => eqF y d) else ds.any fun y => eqF y d))
  | d, .tup ds, Q => flatD d = true ∧ ds.all flatD = true ∧ Q (.bl (if neg then !(ds.any fun y => eqF y d) else ds.any fun y => eqF y d))
  | _, _, _ => False
def rInA (K : PySem.W.Frag) (neg : Bool) : R2 := fun x y H Q => (∃ (c : Nat) (z : Str), x = .str ⟨#[c]⟩ ∧ y = .str z ∧ Q (.bl (if neg then !decide (c ∈ z.cps.toList) else decide (c ∈ z.cps.toList))) H) ∨ rIn K neg x y H Q
theorem op_inA : OpR X (compareOp .In) (rInA X.K false) := op_in_sign.or op_in_seq
theorem op_notInA : OpR X (compareOp .NotIn) (rInA X.K true) := op_notIn_sign.or op_notIn_seq
theorem lift_in {neg : Bool} : Lift2 W (rInA W.K neg) (inD neg) := by
  refine ⟨fun a b Q Q' z h => ?_, fun G H x y a b Q g rx ry h => ?_⟩
  · unfold inD at h ⊢
    split at h
    · exact z _ h
    · exact ⟨h.1, h.2.1, z _ h.2.2⟩
    · exact ⟨h.1, h.2.1, z _ h.2.2⟩
    · exact h
  · unfold inD at h
    split at h
    · refine .inl ⟨_, _, rep_str rx, rep_str ry, ?_⟩
      rw [zs_list]
      exact QE.here g rep_bl' h
    · obtain ⟨p, xs, rfl, hs, r1⟩ := rep_lst ry
      refine .inr ⟨p, xs, rfl, .inl (.inl (.inl (g.le _ _ hs))), flat_rep h.1 rx, flats_rep h.2.1 r1, ?_⟩
      rw [any_rep h.1 rx h.2.1 r1]
      exact QE.here g rep_bl' h.2.2
    · obtain ⟨p, xs, rfl, hs, r1⟩ := rep_tup ry
      refine .inr ⟨p, xs, rfl, .inr (Same.sqT g.le hs), flat_rep h.1 rx, flats_rep h.2.1 r1, ?_⟩
      rw [any_rep h.1 rx h.2.1 r1]
      exact QE.here g rep_bl' h.2.2
    · exact h.elim
theorem op_inX (B : DB0 W X) : OpR X (compareOp .In) (rInA W.K false) := by rw [← B.hK]; exact op_inA
theorem op_notInX (B : DB0 W X) : OpR X (compareOp .NotIn) (rInA W.K true) := by rw [← B.hK]; exact op_notInA

/-! ### subscripts -/
def idxD : D → D → PD → Prop
  | .lst ds, .int i, Q => ∃ d, atI ds i = some d ∧ Q d
  | .tup ds, .int i, Q => ∃ d, atI ds i = some d ∧ Q d
  | .str s, .int i, Q => s.length ≤ sizeLine ∧ ∃ c, atI s i = some c ∧ Q (.str [c])
  | _, _, _ => False
def rIxA (K : PySem.W.Frag) : R2 := fun x y H Q => (rIxL K x y H Q ∨ rIxT K x y H Q) ∨ rIxS x y H Q
theorem ix_any : IxR X (rIxA X.K) := (ix_list.or ix_tup).or ix_str
theorem atI_rep {K : PySem.W.Frag} {ds : List D} {xs : List V} {i : Int} {d : D} (r : reps K G ds xs) (h : atI ds i = some d) : ∃ x, atI xs i = some x ∧ rep K G d x := by
  unfold atI at h ⊢
  obtain ⟨j, h1, h2⟩ := Option.bind_eq_some_iff.mp h
  obtain ⟨x, e1, e2⟩ := r.get h2
  refine ⟨x, ?_, e2⟩
  rw [r.length, h1]
  exact e1
theorem lift_ix : Lift2 W (rIxA W.K) idxD := by
  refine ⟨fun a b Q Q' z h => ?_, fun G H x y a b Q g rx ry h => ?_⟩
  · unfold idxD at h ⊢
    split at h
    · obtain ⟨d, e, q⟩ := h; exact ⟨d, e, z _ q⟩
    · obtain ⟨d, e, q⟩ := h; exact ⟨d, e, z _ q⟩
    · obtain ⟨l, d, e, q⟩ := h; exact ⟨l, d, e, z _ q⟩
    · exact h
  · unfold idxD at h
    split at h
    · obtain ⟨p, xs, rfl, hs, r1⟩ := rep_lst rx
      obtain ⟨d, e, q⟩ := h
      obtain ⟨v, e1, e2⟩ := atI_rep r1 e
      exact .inl (.inl ⟨p, xs, _, v, rfl, rep_int ry, .inl (.inl (g.le _ _ hs)), e1, q.here g e2⟩)
    · obtain ⟨p, xs, rfl, hs, r1⟩ := rep_tup rx
      obtain ⟨d, e, q⟩ := h
      obtain ⟨v, e1, e2⟩ := atI_rep r1 e
      exact .inl (.inr ⟨p, xs, _, v, rfl, rep_int ry, Same.sqT g.le hs, e1, q.here g e2⟩)
    · obtain ⟨l, c, e, q⟩ := h
      exact .inr ⟨_, _, c, rep_str rx, rep_int ry, by rw [zs_len]; exact l, by rw [zs_list]; exact e, q.here g rep_str'⟩
    · exact h.elim
theorem de_ix {a b : Expr} {fa fb : WE} {pos : Pos} (B : DB0 W X) (ha : DE W G0 H0 E X a fa) (hb : DE W G0 H0 E X b fb) (hs : PlainIx b) : DE W G0 H0 E X (.Subscript a b pos) (wOp2 idxD fa fb) := by
  obtain ⟨m, ta, tb, pa, pb, q⟩ := two ha hb (r := rIxA W.K) lift_ix
  exact ⟨m, _, pe_ix (by rw [← B.hK]; exact ix_any) pa pb hs, q⟩
/-- an item of a list that is read -/
def wIxL (fa : WL) (fb : WE) : WE := fun env Q Y => fa env (fun ds => fb env (fun b => ∃ i d, b = .int i ∧ atI ds i = some d ∧ Q d) Y) Y
theorem de_ixL {a b : Expr} {fa : WL} {fb : WE} {pos : Pos} (B : DB0 W X) (ha : DLs W G0 H0 E X a fa) (hb : DE W G0 H0 E X b fb) (hs : PlainIx b) : DE W G0 H0 E X (.Subscript a b pos) (wIxL fa fb) := by
  obtain ⟨ma, ta, pa, qa⟩ := ha
  obtain ⟨mb, tb, pb, qb⟩ := hb
  refine ⟨fun env Q Q' Y z w => ma _ _ _ _ (fun a w => mb _ _ _ _ (fun b ⟨i, d, e, l, w⟩ => ⟨i, d, e, l, z _ w⟩) w) w, _, pe_ix ix_list pa pb hs, fun env σ G H Q r w => ?_⟩
  refine qa env σ G H _ r (ma _ _ _ _ (fun a w => ?_) w)
  intro x G1 H1 s1 l1
  refine qb env σ G1 H1 _ (r.step s1) (mb _ _ _ _ (fun b w => ?_) w)
  intro y G2 H2 s2 rb
  obtain ⟨p, xs, rfl, a1, _, r1⟩ := l1.step s2
  obtain ⟨i, d, rfl, e, w⟩ := w
  obtain ⟨v, e1, e2⟩ := atI_rep r1 e
  exact ⟨p, xs, i, v, rfl, rep_int rb, .inl (.inl a1), e1, w v G2 H2 (s1.trans s2) e2⟩

/-! ### slices -/
def cutD {α : Type} (xs : List α) (lo hi : Option Int) : List α := (xs.drop (HT.sIx xs.length 0 lo)).take (HT.sIx xs.length xs.length hi - HT.sIx xs.length 0 lo)
def slD : D → Option Int → Option Int → PD → Prop
  | .lst ds, lo, hi, Q => Q (.lst (cutD ds lo hi))
  | .tup ds, lo, hi, Q => Q (.tup (cutD ds lo hi))
  | .str s, lo, hi, Q => s.length ≤ sizeLine ∧ Q (.str (cutD s lo hi))
  | _, _, _, _ => False
theorem cut_rep {K : PySem.W.Frag} {ds : List D} {xs : List V} {lo hi : Option Int} (r : reps K G ds xs) : reps K G (cutD ds lo hi) (cutV xs lo hi) := by
  unfold cutD cutV
  rw [r.length]
  exact (r.drop _).take _
abbrev WO := Env1 → (Option Int → Prop) → PX → Prop
structure DO (W : Wd) (G0 H0 : Hp) (E : XK) (X : Cx) (o : Option Expr) (f : WO) : Prop where
  mono : Mono f
  ex : ∃ t, PO X o t ∧ ∀ env σ G H (Q : Option Int → Hp → Prop), RelS W G0 H0 env σ G H → f env (fun i => ∀ G' H', Gst W G H G' H' → Q i H') (XOk W G0 H0 E) → t σ H Q
def wNo : WO := fun _ Q _ => Q none
def wSm (f : WE) : WO := fun env Q Y => f env (fun d => ∃ i, d = .int i ∧ Q (some i)) Y
theorem do_none : DO W G0 H0 E X none wNo := ⟨fun env Q Q' Y z w => z _ w, _, po_none, fun env σ G H Q r w => w G H (.refl r.gok)⟩
theorem do_some {e : Expr} {f : WE} (h : DE W G0 H0 E X e f) : DO W G0 H0 E X (some e) (wSm f) := by
  obtain ⟨m, t, p, q⟩ := h
  refine ⟨fun env Q Q' Y z w => m _ _ _ _ (fun d ⟨i, e, w⟩ => ⟨i, e, z _ w⟩) w, _, po_some p, fun env σ G H Q r w => ?_⟩
  refine q env σ G H _ r (m _ _ _ _ (fun d w => ?_) w)
  obtain ⟨i, rfl, w⟩ := w
  intro v G1 H1 s1 rp
  exact ⟨i, rep_int rp, w G1 H1 s1⟩
def rSlAll (K : PySem.W.Frag) : V → Option Int → Option Int → Hp → VK → Prop := fun x lo hi H Q => (rSlL K x lo hi H Q ∨ rSlA K x lo hi H Q) ∨ rSlS x lo hi H Q
theorem sl_all : SlR X (rSlAll X.K) := (sl_list.or sl_tupA).or sl_str
def wSl (fa : WE) (lo hi : WO) : WE := fun env Q Y => fa env (fun a => lo env (fun l => hi env (fun u => slD a l u Q) Y) Y) Y
theorem de_slice {a : Expr} {lo hi : Option Expr} {fa : WE} {fl fh : WO} {p2 pos : Pos} (B : DB0 W X) (ha : DE W G0 H0 E X a fa) (hl : DO W G0 H0 E X lo fl) (hh : DO W G0 H0 E X hi fh) : DE W G0 H0 E X (.Subscript a (.Slice lo hi none p2) pos) (wSl fa fl fh) := by
  obtain ⟨ma, ta, pa, qa⟩ := ha
  obtain ⟨ml, tl, pl, ql⟩ := hl
  obtain ⟨mh, th, ph, qh⟩ := hh
  have msl : ∀ a l u (Q Q' : PD), (∀ d, Q d → Q' d) → slD a l u Q → slD a l u Q' := fun a l u Q Q' z h => by
    cases a <;> first | exact z _ h | exact ⟨h.1, z _ h.2⟩ | exact h
  have hK := B.hK
  refine ⟨fun env Q Q' Y z w => ma _ _ _ _ (fun a w => ml _ _ _ _ (fun l w => mh _ _ _ _ (fun u w => msl _ _ _ _ _ z w) w) w) w, _, pe_slice sl_all pa pl ph, fun env σ G H Q r w => ?_⟩
  refine qa env σ G H _ r (ma _ _ _ _ (fun a w => ?_) w)
  intro x G1 H1 s1 ra
  refine ql env σ G1 H1 _ (r.step s1) (ml _ _ _ _ (fun l w => ?_) w)
  intro G2 H2 s2
  refine qh env σ G2 H2 _ ((r.step s1).step s2) (mh _ _ _ _ (fun u w => ?_) w)
  intro G3 H3 s3
  have st : Gst W G H G3 H3 := s1.trans (s2.trans s3)
  have rx := rep_mono (s2.le.trans s3.le) _ _ ra
  have g := s3.gok
  rw [hK]
  cases a with
  | lst ds =>
    obtain ⟨p, xs, rfl, hs, r1⟩ := rep_lst rx
    exact .inl (.inl ⟨p, xs, rfl, .inl (.inl (g.le _ _ hs)), QE.lst g (cut_rep r1) (QE.step st w)⟩)
  | tup ds =>
    obtain ⟨p, xs, rfl, hs, r1⟩ := rep_tup rx
    have w' : QE W G3 H3 Q (.tup (cutD ds l u)) := QE.step st w
    refine .inl (.inr ⟨p, xs, rfl, Same.sqT g.le hs, fun e => ?_, fun _ => QE.tup g (cut_rep r1) w'⟩)
    have ed : cutD ds l u = ds := by
      unfold cutD
      rw [← r1.length, e.1, e.2, List.drop_zero, Nat.sub_zero, r1.length]
      exact List.take_length
    rw [ed] at w'
    exact w'.here g rx
  | str s =>
    refine .inr ⟨_, rep_str rx, by rw [zs_len]; exact w.1, ?_⟩
    have e : cutS (zs s) l u = zs (cutD s l u) := by
      unfold cutS cutD
      rw [zs_len, zs_list]
    rw [e]
    exact (QE.step st w.2).here g rep_str'
  | _ => exact False.elim w
/-- a slice of a list that is read: a new list -/
def wSlF (fa : WL) (lo hi : WO) : WL := fun env Q Y => fa env (fun a => lo env (fun l => hi env (fun u => Q (cutD a l u)) Y) Y) Y
theorem df_slice {a : Expr} {lo hi : Option Expr} {fa : WL} {fl fh : WO} {p2 pos : Pos} (B : DB0 W X) (ha : DLs W G0 H0 E X a fa) (hl : DO W G0 H0 E X lo fl) (hh : DO W G0 H0 E X hi fh) : DF W G0 H0 E X (.Subscript a (.Slice lo hi none p2) pos) (wSlF fa fl fh) := by
  obtain ⟨ma, ta, pa, qa⟩ := ha
  obtain ⟨ml, tl, pl, ql⟩ := hl
  obtain ⟨mh, th, ph, qh⟩ := hh
  refine ⟨fun env Q Q' Y z w => ma _ _ _ _ (fun a w => ml _ _ _ _ (fun l w => mh _ _ _ _ (fun u w => z _ w) w) w) w, _, pe_slice sl_list pa pl ph, fun env σ G H Q r w => ?_⟩
  refine qa env σ G H _ r (ma _ _ _ _ (fun a w => ?_) w)
  intro x G1 H1 s1 ra
  refine ql env σ G1 H1 _ (r.step s1) (ml _ _ _ _ (fun l w => ?_) w)
  intro G2 H2 s2
  refine qh env σ G2 H2 _ ((r.step s1).step s2) (mh _ _ _ _ (fun u w => ?_) w)
  intro G3 H3 s3
  have st : Gst W G H G3 H3 := s1.trans (s2.trans s3)
  obtain ⟨p, xs, rfl, a1, _, r1⟩ := (ra.step s2).step s3
  exact ⟨p, xs, rfl, .inl (.inl a1), QF.lst s3.gok (cut_rep r1) (QF.step st w)⟩
end
end DL
/-! built-in calls, methods, what is walked -/
namespace DL
open PySem PySem.Spec PyProof.Rows L2
section
variable {W : Wd} {G0 H0 G G' H H' : Hp} {E : XK} {X : Cx} {k n : Nat} {env : Env1} {σ : L2.St}
structure LiftN (W : Wd) (r : List V → Hp → VK → Prop) (g : List D → PD → Prop) : Prop where
  mono : ∀ ds (Q Q' : PD), (∀ d, Q d → Q' d) → g ds Q → g ds Q'
  run : ∀ G H vs ds Q, GOk W G H → reps W.K G ds vs → g ds (QE W G H Q) → r vs H Q
def wCB (g : List D → PD → Prop) (ga : WL) : WE := fun env Q Y => ga env (fun ds => g ds Q) Y
theorem de_cb {e : Expr} {es : List Expr} {r : List V → Hp → VK → Prop} {g : List D → PD → Prop} {ga : WL} (hp : ∀ t, PA X es t → PE X e (tCB r t)) (l : LiftN W r g) (ha : DA W G0 H0 E X es ga) : DE W G0 H0 E X e (wCB g ga) := by
  obtain ⟨m, _, t, p, q⟩ := ha
  refine ⟨fun env Q Q' Y z w => m _ _ _ _ (fun ds w => l.mono _ _ _ z w) w, _, hp _ p, fun env σ G H Q r w => ?_⟩
  refine q env σ G H _ r (m _ _ _ _ (fun ds w => ?_) w)
  intro vs G1 H1 s1 rp
  exact l.run G1 H1 vs ds Q s1.gok rp (l.mono _ _ _ (fun d h => QE.step s1 h) w)
/-- .. whose answer is a new list -/
structure LiftF (W : Wd) (r : List V → Hp → VK → Prop) (g : List D → (List D → Prop) → Prop) : Prop where
  mono : ∀ ds (Q Q' : List D → Prop), (∀ d, Q d → Q' d) → g ds Q → g ds Q'
  run : ∀ G H vs ds Q, GOk W G H → reps W.K G ds vs → g ds (QF W G H Q) → r vs H Q
def wCF (g : List D → (List D → Prop) → Prop) (ga : WL) : WL := fun env Q Y => ga env (fun ds => g ds Q) Y
theorem df_cb {e : Expr} {es : List Expr} {r : List V → Hp → VK → Prop} {g : List D → (List D → Prop) → Prop} {ga : WL} (hp : ∀ t, PA X es t → PE X e (tCB r t)) (l : LiftF W r g) (ha : DA W G0 H0 E X es ga) : DF W G0 H0 E X e (wCF g ga) := by
  obtain ⟨m, _, t, p, q⟩ := ha
  refine ⟨fun env Q Q' Y z w => m _ _ _ _ (fun ds w => l.mono _ _ _ z w) w, _, hp _ p, fun env σ G H Q r w => ?_⟩
  refine q env σ G H _ r (m _ _ _ _ (fun ds w => ?_) w)
  intro vs G1 H1 s1 rp
  exact l.run G1 H1 vs ds Q s1.gok rp (l.mono _ _ _ (fun d h => QF.step s1 h) w)
theorem reps1 {K : PySem.W.Frag} {d : D} {vs : List V} (h : reps K G [d] vs) : ∃ v, vs = [v] ∧ rep K G d v := by
  obtain ⟨x, r, rfl, h1, h2⟩ := h.uncons
  rw [h2.nil_eq]
  exact ⟨x, rfl, h1⟩
theorem reps2 {K : PySem.W.Frag} {d e : D} {vs : List V} (h : reps K G [d, e] vs) : ∃ v u, vs = [v, u] ∧ rep K G d v ∧ rep K G e u := by
  obtain ⟨x, r, rfl, h1, h2⟩ := h.uncons
  obtain ⟨u, rfl, h3⟩ := reps1 h2
  exact ⟨x, u, rfl, h1, h3⟩
theorem SqL.at {K : PySem.W.Frag} {a : Addr} {xs : List V} (h : H a = some (.lst xs)) : SqL K H a xs := .inl (.inl h)

/-! ### len -/
def lenD : List D → PD → Prop
  | [.str s], Q => s.length ≤ sizeLine ∧ Q (.int s.length)
  | [.lst ds], Q => Q (.int ds.length)
  | [.tup ds], Q => Q (.int ds.length)
  | [.dct ks _], Q => Q (.int ks.length)
  | _, _ => False
def rLenA (K : PySem.W.Frag) : List V → Hp → VK → Prop := fun xs H Q => ((∃ p ys, xs = [.ref p] ∧ (SqL K H p ys ∨ SqT K H p ys) ∧ Q (.int ys.length) H) ∨ (∃ z, xs = [.str z] ∧ z.length ≤ sizeLine ∧ Q (.int z.length) H)) ∨
  ∃ a kvs, xs = [V.ref a] ∧ H a = some (.dK kvs) ∧ Q (.int kvs.length) H
theorem cr_lenA : CallR X (.builtin "len") (rLenA X.K) := (call_len_seq.or call_len_str).or call_lenD
theorem lift_len : LiftN W (rLenA W.K) lenD := by
  refine ⟨fun ds Q Q' z h => ?_, fun G H vs ds Q g rp h => ?_⟩
  · unfold lenD at h ⊢
    split at h <;> first | exact ⟨h.1, z _ h.2⟩ | exact z _ h | exact h
  · unfold lenD at h
    split at h
    · obtain ⟨v, rfl, r⟩ := reps1 rp
      refine .inl (.inr ⟨_, by rw [rep_str r], by rw [zs_len]; exact h.1, ?_⟩)
      rw [zs_len]
      exact h.2.here g rep_int'
    · obtain ⟨v, rfl, r⟩ := reps1 rp
      obtain ⟨p, xs, rfl, hs, r1⟩ := rep_lst r
      refine .inl (.inl ⟨p, xs, rfl, .inl (SqL.at (g.le _ _ hs)), ?_⟩)
      rw [r1.length]
      exact QE.here g rep_int' h
    · obtain ⟨v, rfl, r⟩ := reps1 rp
      obtain ⟨p, xs, rfl, hs, r1⟩ := rep_tup r
      refine .inl (.inl ⟨p, xs, rfl, .inr (Same.sqT g.le hs), ?_⟩)
      rw [r1.length]
      exact QE.here g rep_int' h
    · obtain ⟨v, rfl, r⟩ := reps1 rp
      unfold rep at r
      obtain ⟨p, kvs, rfl, hs, ek, r1⟩ := r
      refine .inr ⟨p, kvs, rfl, g.le _ _ hs, ?_⟩
      rw [← List.length_map (f := fun x : Key × V => x.1) (as := kvs), ek]
      exact QE.here g rep_int' h
    · exact h.elim
/-- f(own list), the answer a plain value -/
def intD : List D → PD → Prop
  | [.int i], Q => Q (.int i)
  | [.bl b], Q => Q (.int (if b then 1 else 0))
  | _, _ => False
theorem lift_int : LiftN W (fun xs H Q => (∃ i, xs = [.int i] ∧ Q (.int i) H) ∨ ∃ k, xs = [.bl k] ∧ Q (.int (if k then 1 else 0)) H) intD := by
  refine ⟨fun ds Q Q' z h => ?_, fun G H vs ds Q g rp h => ?_⟩
  · unfold intD at h ⊢
    split at h <;> first | exact z _ h | exact h
  · unfold intD at h
    split at h
    · obtain ⟨v, rfl, r⟩ := reps1 rp
      exact .inl ⟨_, by rw [rep_int r], QE.here g rep_int' h⟩
    · obtain ⟨v, rfl, r⟩ := reps1 rp
      exact .inr ⟨_, by rw [rep_bl r], QE.here g rep_int' h⟩
    · exact h.elim
def absD : List D → PD → Prop := fun ds Q => ∃ i : Int, ds = [.int i] ∧ Q (.int (if i < 0 then -i else i))
theorem lift_abs : LiftN W (fun xs H Q => ∃ i, xs = [.int i] ∧ Q (.int (if i < 0 then -i else i)) H) absD :=
  ⟨fun ds Q Q' z ⟨i, e, q⟩ => ⟨i, e, z _ q⟩, fun G H vs ds Q g rp ⟨i, e, q⟩ => by
    subst e
    obtain ⟨v, rfl, r⟩ := reps1 rp
    exact ⟨i, by rw [rep_int r], q.here g rep_int'⟩⟩
def max2D : List D → PD → Prop := fun ds Q => ∃ i j : Int, ds = [.int i, .int j] ∧ Q (.int (if j > i then j else i))
theorem lift_max2 : LiftN W (fun xs H Q => ∃ i j, xs = [.int i, .int j] ∧ Q (.int (if j > i then j else i)) H) max2D :=
  ⟨fun ds Q Q' z ⟨i, j, e, q⟩ => ⟨i, j, e, z _ q⟩, fun G H vs ds Q g rp ⟨i, j, e, q⟩ => by
    subst e
    obtain ⟨v, u, rfl, r, r'⟩ := reps2 rp
    exact ⟨i, j, by rw [rep_int r, rep_int r'], q.here g rep_int'⟩⟩
def min2D : List D → PD → Prop := fun ds Q => ∃ i j : Int, ds = [.int i, .int j] ∧ Q (.int (if j < i then j else i))
theorem lift_min2 : LiftN W (fun xs H Q => ∃ i j, xs = [.int i, .int j] ∧ Q (.int (if j < i then j else i)) H) min2D :=
  ⟨fun ds Q Q' z ⟨i, j, e, q⟩ => ⟨i, j, e, z _ q⟩, fun G H vs ds Q g rp ⟨i, j, e, q⟩ => by
    subst e
    obtain ⟨v, u, rfl, r, r'⟩ := reps2 rp
    exact ⟨i, j, by rw [rep_int r, rep_int r'], q.here g rep_int'⟩⟩
def sumD : List D → PD → Prop := fun ds Q => ∃ ns : List Int, ds = [.lst (ns.map D.int)] ∧ Q (.int ns.sum)
theorem lift_sum : LiftN W (rSum W.K) sumD :=
  ⟨fun ds Q Q' z ⟨i, e, q⟩ => ⟨i, e, z _ q⟩, fun G H vs ds Q g rp ⟨ns, e, q⟩ => by
    subst e
    obtain ⟨v, rfl, r⟩ := reps1 rp
    obtain ⟨p, xs, rfl, hs, r1⟩ := rep_lst r
    rw [reps_ints r1] at hs
    exact ⟨p, ns, rfl, SqL.at (g.le _ _ hs), q.here g rep_int'⟩⟩
def anyD : List D → PD → Prop := fun ds Q => ∃ bs : List Bool, ds = [.lst (bs.map D.bl)] ∧ Q (.bl (bs.any id))
theorem lift_any : LiftN W (rAny W.K) anyD :=
  ⟨fun ds Q Q' z ⟨i, e, q⟩ => ⟨i, e, z _ q⟩, fun G H vs ds Q g rp ⟨ns, e, q⟩ => by
    subst e
    obtain ⟨v, rfl, r⟩ := reps1 rp
    obtain ⟨p, xs, rfl, hs, r1⟩ := rep_lst r
    rw [reps_bls r1] at hs
    exact ⟨p, ns, rfl, SqL.at (g.le _ _ hs), q.here g rep_bl'⟩⟩
def allD : List D → PD → Prop := fun ds Q => ∃ bs : List Bool, ds = [.lst (bs.map D.bl)] ∧ Q (.bl (bs.all id))
theorem lift_all : LiftN W (rAll W.K) allD :=
  ⟨fun ds Q Q' z ⟨i, e, q⟩ => ⟨i, e, z _ q⟩, fun G H vs ds Q g rp ⟨ns, e, q⟩ => by
    subst e
    obtain ⟨v, rfl, r⟩ := reps1 rp
    obtain ⟨p, xs, rfl, hs, r1⟩ := rep_lst r
    rw [reps_bls r1] at hs
    exact ⟨p, ns, rfl, SqL.at (g.le _ _ hs), q.here g rep_bl'⟩⟩
/-- tuple(list), tuple(tuple) -/
def tupleD : List D → PD → Prop
  | [.lst ds], Q => Q (.tup ds)
  | [.tup ds], Q => Q (.tup ds)
  | _, _ => False
def rTupA (K : PySem.W.Frag) : List V → Hp → VK → Prop := fun xs H Q => ∃ p ys, xs = [.ref p] ∧ ((SqL K H p ys ∧ ∀ l, H l = none → Q (.ref l) (upd H l (.tup ys))) ∨ (SqT K H p ys ∧ Q (.ref p) H))
theorem cr_tupA : CallR X (.type "tuple") (rTupA X.K) := by
  intro pins s σ H vs us Q I r h
  obtain ⟨p, ys, rfl, h⟩ := h
  rcases h with ⟨a, q⟩ | ⟨a, q⟩
  · exact call_tuple_of pins s σ H _ us Q I r ⟨p, ys, rfl, .inl ⟨a, q⟩⟩
  · exact call_tupleT pins s σ H _ us Q I r ⟨p, ys, rfl, a, q⟩
theorem lift_tuple : LiftN W (rTupA W.K) tupleD := by
  refine ⟨fun ds Q Q' z h => ?_, fun G H vs ds Q g rp h => ?_⟩
  · unfold tupleD at h ⊢
    split at h <;> first | exact z _ h | exact h
  · unfold tupleD at h
    split at h
    · obtain ⟨v, rfl, r⟩ := reps1 rp
      obtain ⟨p, xs, rfl, hs, r1⟩ := rep_lst r
      exact ⟨p, xs, rfl, .inl ⟨SqL.at (g.le _ _ hs), QE.tup g r1 h⟩⟩
    · obtain ⟨v, rfl, r⟩ := reps1 rp
      obtain ⟨p, xs, rfl, hs, r1⟩ := rep_tup r
      exact ⟨p, xs, rfl, .inr ⟨Same.sqT g.le hs, QE.here g r h⟩⟩
    · exact h.elim
/-- tuple(a list that is read) -/
def wTupL (f : WL) : WE := fun env Q Y => f env (fun ds => Q (.tup ds)) Y
theorem de_tupleL {a e : Expr} {f : WL} (B : DB0 W X) (hp : ∀ t, PA X [a] t → PE X e (tCB (rTupA X.K) t)) (ha : DLs W G0 H0 E X a f) (hst : starEach [a] X.env = (false, eval a X.env) :: starEach [] X.env := by rfl) : DE W G0 H0 E X e (wTupL f) := by
  obtain ⟨m, t, p, q⟩ := ha
  refine ⟨fun env Q Q' Y z w => m _ _ _ _ (fun ds w => z _ w) w, _, hp _ (pa_cons p pa_nil hst), fun env σ G H Q r w => ?_⟩
  refine q env σ G H _ r (m _ _ _ _ (fun ds w => ?_) w)
  intro v G1 H1 s1 l1
  obtain ⟨p, xs, rfl, a1, _, r1⟩ := l1
  exact ⟨p, xs, rfl, .inl ⟨SqL.at a1, QE.tup s1.gok r1 (QE.step s1 w)⟩⟩
/-- list(list), list(tuple) -/
def listD : List D → (List D → Prop) → Prop
  | [.lst ds], Q => Q ds
  | [.tup ds], Q => Q ds
  | _, _ => False
def rListA (K : PySem.W.Frag) : List V → Hp → VK → Prop := fun xs H Q => ∃ p ys, xs = [.ref p] ∧ (SqL K H p ys ∨ SqT K H p ys) ∧ ∀ l, H l = none → Q (.ref l) (upd H l (.lst ys))
theorem lift_list : LiftF W (rListA W.K) listD := by
  refine ⟨fun ds Q Q' z h => ?_, fun G H vs ds Q g rp h => ?_⟩
  · unfold listD at h ⊢
    split at h <;> first | exact z _ h | exact h
  · unfold listD at h
    split at h
    · obtain ⟨v, rfl, r⟩ := reps1 rp
      obtain ⟨p, xs, rfl, hs, r1⟩ := rep_lst r
      exact ⟨p, xs, rfl, .inl (SqL.at (g.le _ _ hs)), QF.lst g r1 h⟩
    · obtain ⟨v, rfl, r⟩ := reps1 rp
      obtain ⟨p, xs, rfl, hs, r1⟩ := rep_tup r
      exact ⟨p, xs, rfl, .inr (Same.sqT g.le hs), QF.lst g r1 h⟩
    · exact h.elim

/-! ### isinstance -/
def tyOf : D → String
  | .non => "NoneType"
  | .bl _ => "bool"
  | .int _ => "int"
  | .str _ => "str"
  | .tup _ => "tuple"
  | .lst _ => "list"
  | .dct _ _ => "dict"
  | .vr _ => "?"
def isVr : D → Bool
  | .vr _ => true
  | _ => false
/-- a value of the type a is one of the type b -/
def subTy (a b : String) : Bool := a == b || (a == "bool" && b == "int")
def isiD : List D → PD → Prop
  | [d, .vr (.ty n)], Q => isVr d = false ∧ n ∈ ["int", "bool", "str", "tuple", "list", "dict"] ∧ Q (.bl (subTy (tyOf d) n))
  | [d, .tup ts], Q => isVr d = false ∧ ∃ ns : List String, ts = ns.map (fun n => D.vr (.ty n)) ∧ (∀ n ∈ ns, n ∈ ["int", "bool", "str", "tuple", "list", "dict"]) ∧ Q (.bl (ns.any fun n => subTy (tyOf d) n))
  | _, _ => False
theorem kit_all {K : PySem.W.Frag} {d : D} (h : isVr d = false) {n : String} (hn : n ∈ ["int", "bool", "str", "tuple", "list", "dict"]) : PySem.W.kitOne K (.type (tyOf d)) (.type n) = some (subTy (tyOf d) n) := by
  have ht : tyOf d ∈ ["NoneType", "bool", "int", "str", "tuple", "list", "dict"] := by cases d <;> first | (cases h; done) | simp [tyOf]
  have key : ∀ t ∈ ["NoneType", "bool", "int", "str", "tuple", "list", "dict"], ∀ n ∈ ["int", "bool", "str", "tuple", "list", "dict"], kitB t n = some (subTy t n) := by decide +kernel
  exact kit_ty (key _ ht n hn)
theorem tyx_of {K : PySem.W.Frag} {d : D} {v : V} (e : Same G H) (r : rep K G d v) (h : isVr d = false) : TyX K H v (.type (tyOf d)) := by
  cases d with
  | non => rw [rep_non r]; exact .base .non
  | bl b => rw [rep_bl r]; exact .base (.bl b)
  | int b => rw [rep_int r]; exact .base (.int b)
  | str b => rw [rep_str r]; exact .base (.str _)
  | vr u => cases h
  | lst ds =>
    obtain ⟨p, xs, rfl, hs, _⟩ := rep_lst r
    exact .base (.lst (e _ _ hs))
  | tup ds =>
    obtain ⟨p, xs, rfl, hs, _⟩ := rep_tup r
    rcases hs with (hs | ⟨o, hs⟩) | ⟨o, its, m, h1, h2, _⟩
    · exact .base (.tup (e _ _ hs))
    · exact .fTuple (e _ _ hs)
    · exact .kTuple h1 h2
  | dct ks ds =>
    unfold rep at r
    obtain ⟨p, kvs, rfl, hs, _⟩ := r
    exact .base (.dK (e _ _ hs))
theorem kitAny_all {K : PySem.W.Frag} {d : D} (h : isVr d = false) : ∀ (ns : List String), (∀ n ∈ ns, n ∈ ["int", "bool", "str", "tuple", "list", "dict"]) → PySem.W.kitAny K (.type (tyOf d)) (ns.map Value.type) = some (ns.any fun n => subTy (tyOf d) n)
  | [], _ => by unfold PySem.W.kitAny; rfl
  | n :: ns, hn => by
    have h1 := kit_all (K := K) h (hn n List.mem_cons_self)
    have h2 := kitAny_all (K := K) h ns fun m hm => hn m (List.mem_cons_of_mem _ hm)
    rw [List.map_cons, List.any_cons]
    refine kitAny_cons h1 (fun e => ?_) (fun e => ?_)
    · rw [e, Bool.false_or]; exact h2
    · rw [e]; rfl
def rIsiA (K : PySem.W.Frag) : List V → Hp → VK → Prop := fun xs H Q => rIsi K xs H Q ∨ rIsiT K xs H Q
theorem cr_isiA : CallR X (.builtin "isinstance") (rIsiA X.K) := call_isi.or call_isiT
theorem reps_tys {K : PySem.W.Frag} : ∀ {ns : List String} {xs : List V}, reps K G (ns.map fun n => D.vr (.ty n)) xs → Paired ClsV xs (ns.map Value.type)
  | [], xs, h => by rw [List.map_nil] at h; rw [h.nil_eq]; exact .nil
  | n :: ns, xs, h => by
    obtain ⟨x, r, rfl, h1, h2⟩ := h.uncons
    rw [rep_vr h1]
    exact .cons (.ty n) (reps_tys h2)
/-- isinstance(x, T), isinstance(x, (T, U)): a tuple of classes is a new one -/
theorem lift_isi : LiftN W (rIsiA W.K) (fun ds Q => isiD ds Q ∧ ∀ d ts, ds = [d, .tup ts] → False) := by
  refine ⟨fun ds Q Q' z h => ?_, fun G H vs ds Q g rp h => ?_⟩
  · refine ⟨?_, h.2⟩
    have h := h.1
    unfold isiD at h ⊢
    split at h
    · exact ⟨h.1, h.2.1, z _ h.2.2⟩
    · obtain ⟨a, ns, b, c, q⟩ := h
      exact ⟨a, ns, b, c, z _ q⟩
    · exact h
  · obtain ⟨h, hno⟩ := h
    unfold isiD at h
    split at h
    · obtain ⟨a, b, q⟩ := h
      obtain ⟨v, u, rfl, r, r'⟩ := reps2 rp
      exact .inl ⟨v, _, _, _, _, by rw [rep_vr r'], .ty _, tyx_of g.le r a, kit_all a b, q.here g rep_bl'⟩
    · exact (hno _ _ rfl).elim
    · exact h.elim
theorem paired_tys : ∀ ns : List String, Paired ClsV (ns.map V.ty) (ns.map Value.type)
  | [] => .nil
  | n :: ns => .cons (.ty n) (paired_tys ns)
/-- isinstance(x, (T, U, ..)), the tuple written there -/
def wIsiT (f : WE) (ns : List String) : WE := fun env Q Y => f env (fun d => isVr d = false ∧ (∀ n ∈ ns, n ∈ ["int", "bool", "str", "tuple", "list", "dict"]) ∧ Q (.bl (ns.any fun n => subTy (tyOf d) n))) Y
def tTys (ns : List String) : TA := fun _ H Q => Q (ns.map V.ty) H
theorem de_isiT {a e : Expr} {ts : List Expr} {kk : Nat} {tp : Pos} {f : WE} {ns : List String} (B : DB0 W X) (hp : ∀ t, PA X [a, .Tuple ts kk tp] t → PE X e (tCB (rIsiA X.K) t)) (ha : DE W G0 H0 E X a f) (hts : PA X ts (tTys ns)) (hl : ns.length ≤ 100)
    (hst : starEach [a, .Tuple ts kk tp] X.env = (false, eval a X.env) :: starEach [.Tuple ts kk tp] X.env := by rfl) (hst2 : starEach [.Tuple ts kk tp] X.env = (false, eval (.Tuple ts kk tp) X.env) :: starEach [] X.env := by rfl) : DE W G0 H0 E X e (wIsiT f ns) := by
  obtain ⟨m, t, p, q⟩ := ha
  refine ⟨fun env Q Q' Y z w => m _ _ _ _ (fun d ⟨a, b, w⟩ => ⟨a, b, z _ w⟩) w, _, hp _ (pa_cons p (pa_cons (pe_tup hts) pa_nil hst2) hst), fun env σ G H Q r w => ?_⟩
  refine q env σ G H _ r (m _ _ _ _ (fun d w => ?_) w)
  intro v G1 H1 s1 rp
  obtain ⟨a, b, w⟩ := w
  refine ⟨by rw [List.length_map]; exact Nat.le_trans hl (by decide), fun p hp => ?_⟩
  have hP : Paired ClsV (ns.map V.ty) (ns.map Value.type) := paired_tys ns
  have s2 : Gst W G1 H1 G1 (upd H1 p (.tup (ns.map V.ty))) := Gst.hid s1.gok _ hp
  exact .inr ⟨v, p, _, _, _, _, rfl, upd_same, hP, tyx_of s2.gok.le (by rw [B.hK]; exact rp) a, kitAny_all a ns b, w _ _ _ (s1.trans s2) rep_bl'⟩

/-! ### methods -/
structure LiftM (W : Wd) (r : V → List V → Hp → VK → Prop) (ty : D → Prop) (g : D → List D → PD → Prop) : Prop where
  mono : ∀ o ds (Q Q' : PD), (∀ d, Q d → Q' d) → g o ds Q → g o ds Q'
  run : ∀ G H x vs o ds Q, GOk W G H → rep W.K G o x → reps W.K G ds vs → g o ds (QE W G H Q) → r x vs H Q
def isStr (d : D) : Prop := ∃ s, d = .str s
def isLst (d : D) : Prop := ∃ s, d = .lst s
def wMt (ty : D → Prop) (g : D → List D → PD → Prop) (fo : WE) (ga : WL) : WE := fun env Q Y => fo env (fun o => ty o ∧ ga env (fun ds => g o ds Q) Y) Y
/-- text.m(e), text.m() -/
theorem de_mstr {o e : Expr} {es : List Expr} {r : V → List V → Hp → VK → Prop} {g : D → List D → PD → Prop} {fo : WE} {ga : WL} (hp : ∀ to t, PE X o to → PA X es t → PE X e (tBM X.K "str" r to t)) (l : LiftM W r isStr g) (ho : DE W G0 H0 E X o fo) (ha : DA W G0 H0 E X es ga) :
    DE W G0 H0 E X e (wMt isStr g fo ga) := by
  obtain ⟨mo, to, po, qo⟩ := ho
  obtain ⟨ma, _, t, p, q⟩ := ha
  refine ⟨fun env Q Q' Y z w => mo _ _ _ _ (fun o ⟨a, w⟩ => ⟨a, ma _ _ _ _ (fun ds w => l.mono _ _ _ _ z w) w⟩) w, _, hp _ _ po p, fun env σ G H Q r w => ?_⟩
  refine qo env σ G H _ r (mo _ _ _ _ (fun o w => ?_) w)
  obtain ⟨⟨s, rfl⟩, w⟩ := w
  intro x G1 H1 s1 rx
  refine ⟨by rw [rep_str rx]; rfl, q env σ G1 H1 _ (r.step s1) (ma _ _ _ _ (fun ds w => ?_) w)⟩
  intro vs G2 H2 s2 rp
  exact l.run G2 H2 x vs _ ds Q s2.gok (rep_mono s2.le _ _ rx) rp (l.mono _ _ _ _ (fun d h => QE.step (s1.trans s2) h) w)
theorem de_mlst {o e : Expr} {es : List Expr} {r : V → List V → Hp → VK → Prop} {g : D → List D → PD → Prop} {fo : WE} {ga : WL} (hp : ∀ to t, PE X o to → PA X es t → PE X e (tBM X.K "list" r to t)) (l : LiftM W r isLst g) (ho : DE W G0 H0 E X o fo) (ha : DA W G0 H0 E X es ga) :
    DE W G0 H0 E X e (wMt isLst g fo ga) := by
  obtain ⟨mo, to, po, qo⟩ := ho
  obtain ⟨ma, _, t, p, q⟩ := ha
  refine ⟨fun env Q Q' Y z w => mo _ _ _ _ (fun o ⟨a, w⟩ => ⟨a, ma _ _ _ _ (fun ds w => l.mono _ _ _ _ z w) w⟩) w, _, hp _ _ po p, fun env σ G H Q r w => ?_⟩
  refine qo env σ G H _ r (mo _ _ _ _ (fun o w => ?_) w)
  obtain ⟨⟨s, rfl⟩, w⟩ := w
  intro x G1 H1 s1 rx
  refine ⟨?_, q env σ G1 H1 _ (r.step s1) (ma _ _ _ _ (fun ds w => ?_) w)⟩
  · obtain ⟨p, xs, rfl, hs, _⟩ := rep_lst rx
    exact .inl ⟨rfl, xs, SqL.at (s1.gok.le _ _ hs)⟩
  · intro vs G2 H2 s2 rp
    exact l.run G2 H2 x vs _ ds Q s2.gok (rep_mono s2.le _ _ rx) rp (l.mono _ _ _ _ (fun d h => QE.step (s1.trans s2) h) w)
/-- s.join(texts) -/
def joinD : List Nat → List (List Nat) → List Nat
  | _, [] => []
  | _, [p] => p
  | S, p :: q :: r => p ++ (S ++ joinD S (q :: r))
theorem str_cps (x y : Str) : (x ++ y).cps.toList = x.cps.toList ++ y.cps.toList := by
  show (Array.append x.cps y.cps).toList = _
  simp
theorem join_zs (S : List Nat) : ∀ ps : List (List Nat), Txt.join (zs S) (ps.map zs) = zs (joinD S ps) := by
  have key : ∀ ps : List (List Nat), (Str.join (zs S) (ps.map zs)).cps.toList = joinD S ps := by
    intro ps
    induction ps with
    | nil => rfl
    | cons p ps ih =>
      cases ps with
      | nil => show (zs p).cps.toList = p; simp
      | cons q r =>
        show ((zs p) ++ (zs S) ++ Str.join (zs S) ((q :: r).map zs)).cps.toList = p ++ (S ++ joinD S (q :: r))
        rw [str_cps, str_cps, ih]
        simp
  intro ps
  rw [TL.join_eq]
  have h := key ps
  show _ = (⟨(joinD S ps).toArray⟩ : Str)
  rw [← h]
def gJoin : D → List D → PD → Prop := fun o ds Q => ∃ (s : List Nat) (ps : List (List Nat)), o = .str s ∧ (ds = [.lst (ps.map D.str)] ∨ ds = [.tup (ps.map D.str)]) ∧ (ps.map (·.length)).sum + ps.length * s.length ≤ 16777216 ∧ Q (.str (joinD s ps))
theorem sum_zs (ps : List (List Nat)) : ((ps.map zs).map (·.length)).sum = (ps.map (·.length)).sum := by
  rw [List.map_map]
  exact congrArg List.sum (List.map_congr_left fun p _ => zs_len p)
theorem lift_join : LiftM W (fun x xs H Q => ∃ a p, ∃ ys : List Str, x = .str a ∧ xs = [.ref p] ∧ (SqL W.K H p (ys.map V.str) ∨ SqT W.K H p (ys.map V.str)) ∧
      (ys.map (·.length)).sum + ys.length * a.length ≤ 16777216 ∧ Q (.str (Txt.join a ys)) H) isStr gJoin :=
  ⟨fun o ds Q Q' z ⟨s, ps, a, b, c, q⟩ => ⟨s, ps, a, b, c, z _ q⟩, fun G H x vs o ds Q g rx rp ⟨s, ps, a, b, c, q⟩ => by
    subst a
    have fin : ∀ p, (SqL W.K H p ((ps.map zs).map V.str) ∨ SqT W.K H p ((ps.map zs).map V.str)) → ∃ a p', ∃ ys : List Str, x = .str a ∧ [V.ref p] = [.ref p'] ∧ (SqL W.K H p' (ys.map V.str) ∨ SqT W.K H p' (ys.map V.str)) ∧
        (ys.map (·.length)).sum + ys.length * a.length ≤ 16777216 ∧ Q (.str (Txt.join a ys)) H := fun p hp => by
      refine ⟨zs s, p, ps.map zs, rep_str rx, rfl, hp, ?_, ?_⟩
      · rw [sum_zs, List.length_map, zs_len]; exact c
      · rw [join_zs]; exact q.here g rep_str'
    rcases b with b | b
    · subst b
      obtain ⟨v, rfl, r⟩ := reps1 rp
      obtain ⟨p, xs, rfl, hs, r1⟩ := rep_lst r
      rw [reps_strs r1] at hs
      exact fin p (.inl (SqL.at (g.le _ _ hs)))
    · subst b
      obtain ⟨v, rfl, r⟩ := reps1 rp
      obtain ⟨p, xs, rfl, hs, r1⟩ := rep_tup r
      rw [reps_strs r1] at hs
      exact fin p (.inr (Same.sqT g.le hs))⟩
theorem de_join {o e : Expr} {fo : WE} {fe : WE} {apos pos : Pos} (B : DB0 W X) (ho : DE W G0 H0 E X o fo) (he : DE W G0 H0 E X e fe) (hs : starEach [e] X.env = [(false, eval e X.env)] := by rfl) (hbase : attributeBase o "join" X.env (eval o X.env) = eval o X.env := by rfl) (hline : (apos.endLine == pos.line) = true := by rfl) :
    DE W G0 H0 E X (.Call (.Attribute o "join" apos) [e] [] pos) (wMt isStr gJoin fo (wCons fe wNil)) := by
  obtain ⟨mo, to, po, qo⟩ := ho
  obtain ⟨ma, t, p, q⟩ := he
  have l := lift_join (W := W)
  refine ⟨fun env Q Q' Y z w => mo _ _ _ _ (fun o ⟨a, w⟩ => ⟨a, ma _ _ _ _ (fun d w => l.mono _ _ _ _ z w) w⟩) w, _, pe_join po p hs hbase hline, fun env σ G H Q r w => ?_⟩
  refine qo env σ G H _ r (mo _ _ _ _ (fun o w => ?_) w)
  obtain ⟨⟨s, rfl⟩, w⟩ := w
  intro x G1 H1 s1 rx
  refine ⟨⟨_, rep_str rx⟩, q env σ G1 H1 _ (r.step s1) (ma _ _ _ _ (fun d w => ?_) w)⟩
  intro v G2 H2 s2 rp
  rw [B.hK]
  exact l.run G2 H2 x [v] _ [d] Q s2.gok (rep_mono s2.le _ _ rx) (.cons rp .nil) (l.mono _ _ _ _ (fun d h => QE.step (s1.trans s2) h) w)
/-- list.count, list.index of flat things -/
def gIndexL : D → List D → PD → Prop := fun o ds Q => ∃ (xs : List D) (d z : D) (j : Nat), o = .lst xs ∧ ds = [d] ∧ flatD d = true ∧ xs.all flatD = true ∧ xs[j]? = some z ∧ eqF z d = true ∧ (∀ (m : Nat) z', m < j → xs[m]? = some z' → eqF z' d = false) ∧ Q (.int j)
theorem lift_indexL : LiftM W (rIndex W.K) isLst gIndexL :=
  ⟨fun o ds Q Q' z ⟨xs, d, y, j, a, b, c, e, f, h, i, q⟩ => ⟨xs, d, y, j, a, b, c, e, f, h, i, z _ q⟩, fun G H x vs o ds Q g rx rp ⟨xs, d, y, j, a, b, c, e, f, h, i, q⟩ => by
    subst a b
    obtain ⟨v, rfl, r⟩ := reps1 rp
    obtain ⟨p, ys, rfl, hs, r1⟩ := rep_lst rx
    obtain ⟨w, e1, e2⟩ := r1.get f
    have fy : flatD y = true := List.all_eq_true.mp e y (List.mem_of_getElem? f)
    refine ⟨p, ys, v, j, w, rfl, rfl, SqL.at (g.le _ _ hs), flat_rep c r, flats_rep e r1, e1, by rw [eqF_rep fy c e2 r]; exact h, fun m z' hm ez => ?_, q.here g rep_int'⟩
    have hm' : m < xs.length := by
      have := (List.getElem?_eq_some_iff.mp ez).1
      rw [r1.length] at this; exact this
    obtain ⟨w', k1, k2⟩ := r1.get (List.getElem?_eq_getElem hm')
    rw [ez] at k1
    cases k1
    rw [eqF_rep (List.all_eq_true.mp e _ (List.getElem_mem hm')) c k2 r]
    exact i m _ hm (List.getElem?_eq_getElem hm')⟩

/-! ### what is walked -/
theorem Itok.list {a : Addr} {xs : List V} {ds : List D} (hK : X.K = W.K) (hs : G a = some (.lst xs)) (r : reps W.K G ds xs) : Itok W (Itl X.K a) G ds where
  go := fun G' H' i d g s e => by
    obtain ⟨x, h1, h2⟩ := r.get e
    exact ⟨xs, x, SqL.at (g.le _ _ (s _ _ hs)), h1⟩
  yld := fun G' H' i d x H'' g s e h => by
    obtain ⟨rfl, h⟩ := h
    obtain ⟨y, h1, h2⟩ := r.get e
    have := h xs (SqL.at (g.le _ _ (s _ _ hs)))
    rw [h1] at this
    cases this
    exact ⟨G', .refl g, rep_mono s _ _ h2⟩
  stop := fun G' H' i g s e => ⟨xs, SqL.at (g.le _ _ (s _ _ hs)), by rw [r.length]; exact e⟩
theorem SqT.uniq {K : PySem.W.Frag} {pins : List (Addr × Obj)} {s : Shared} {a : Addr} {xs ys : List V} (I : Inv X pins σ H s) (h : SqT X.K H a xs) (h' : SqT X.K H a ys) : xs = ys := I.tuple_inj h h'
/-- what a walk over a tuple gives: its items, whichever way it stands -/
def Itt' (K : PySem.W.Frag) (a : Addr) (xs : List V) : It :=
  ⟨fun i H => SqT K H a xs ∧ i < xs.length, fun i H x H' => H' = H ∧ xs[i]? = some x, fun i H => SqT K H a xs ∧ xs.length ≤ i⟩
theorem turn_tuple' {P : Program} {w : World} {K : PySem.W.Frag} {tg : Expr} (a it : Addr) (xs : List V) : Turn P w K tg (Itt' K a xs) [it] it (fun i h => h.IsTupleIter it a i) where
  mem := (turn_tuple (P := P) (w := w) (K := K) (tg := tg) a it).mem
  obj := (turn_tuple (P := P) (w := w) (K := K) (tg := tg) a it).obj
  keep := (turn_tuple (P := P) (w := w) (K := K) (tg := tg) a it).keep
  item := fun X hP hw hK hc i pins s σ H E I hf st hg => by
    refine wpAny_mono ((turn_tuple (P := P) (w := w) (K := K) (tg := tg) a it).item X hP hw hK hc i pins s σ H E I hf st ⟨xs, xs[i]'hg.2, hg.1, List.getElem?_eq_getElem hg.2⟩) (fun r s1 ⟨u, e, h⟩ => ⟨u, e, wpAny_mono h (fun _ s2 ⟨x, H', I', r, y, t, f⟩ => ⟨x, H', I', r, ⟨y.1, y.2 xs hg.1⟩, t, f⟩) fun _ _ z => z⟩) fun _ _ z => z
  done := fun X hP hw hK hc i pins s σ H E I hf st hg => (turn_tuple (P := P) (w := w) (K := K) (tg := tg) a it).done X hP hw hK hc i pins s σ H E I hf st ⟨xs, hg.1, hg.2⟩
  self := (turn_tuple (P := P) (w := w) (K := K) (tg := tg) a it).self
theorem Itok.tup {a : Addr} {xs : List V} {ds : List D} (hK : X.K = W.K) (hs : SqT W.K G a xs) (r : reps W.K G ds xs) : Itok W (Itt' X.K a xs) G ds where
  go := fun G' H' i d g s e => ⟨by rw [hK]; exact Same.sqT (s.trans g.le) hs, by rw [r.length]; exact (List.getElem?_eq_some_iff.mp e).1⟩
  yld := fun G' H' i d x H'' g s e h => by
    obtain ⟨rfl, h⟩ := h
    obtain ⟨y, h1, h2⟩ := r.get e
    rw [h1] at h
    cases h
    exact ⟨G', .refl g, rep_mono s _ _ h2⟩
  stop := fun G' H' i g s e => ⟨by rw [hK]; exact Same.sqT (s.trans g.le) hs, by rw [r.length]; exact e⟩
theorem Itok.str {s : List Nat} : Itok W (Its (zs s)) G (s.map fun c => D.str [c]) where
  go := fun G' H' i d g _ e => by
    have := (List.getElem?_eq_some_iff.mp e).1
    rw [List.length_map] at this
    show i < s.toArray.size
    simpa using this
  yld := fun G' H' i d x H'' g _ e h => by
    obtain ⟨rfl, c, h1, rfl⟩ := h
    refine ⟨G', .refl g, ?_⟩
    rw [List.getElem?_map] at e
    have h1' : s[i]? = some c := by simpa [zs] using h1
    rw [h1'] at e
    cases e
    exact rep_str'
  stop := fun G' H' i g _ e => by
    rw [List.length_map] at e
    show s.toArray.size ≤ i
    simpa using e
theorem Itok.range {lo : Int} {n : Nat} : Itok W (Itr lo n) G ((List.range n).map fun i : Nat => D.int (lo + (i : Int))) where
  go := fun G' H' i d g _ e => by
    have := (List.getElem?_eq_some_iff.mp e).1
    show i < n
    simpa using this
  yld := fun G' H' i d x H'' g _ e h => by
    obtain ⟨rfl, rfl⟩ := h
    refine ⟨G', .refl g, ?_⟩
    have hi : i < n := by simpa using (List.getElem?_eq_some_iff.mp e).1
    rw [List.getElem?_map, List.getElem?_range hi] at e
    cases e
    exact rep_int'
  stop := fun G' H' i g _ e => by
    show n ≤ i
    simpa using e
/-- a list, a tuple, a text: whichever it is -/
def iAny (K : PySem.W.Frag) (te : TE) : TI := fun σ H R => te σ H fun x H1 => (∃ a, x = .ref a ∧ (∃ xs, SqL K H1 a xs) ∧ R (Itl K a) H1) ∨ (∃ a xs, x = .ref a ∧ SqT K H1 a xs ∧ R (Itt' K a xs) H1) ∨ (∃ z, x = .str z ∧ R (Its z) H1)
theorem pi_any {tg l : Expr} {tl : TE} (hl : PE X l tl) : PI X tg l (iAny X.K tl) := by
  refine ⟨fun pins s σ H R I h => ?_⟩
  refine thn (hl.run pins s σ H _ I h) fun v s1 ⟨x, H1, I1, r1, q1⟩ => ?_
  rcases q1 with ⟨a, e, ⟨xs, hq⟩, q⟩ | ⟨a, xs, e, hq, q⟩ | ⟨z, e, q⟩
  · subst e
    cases r1
    obtain ⟨its, rv, p, hz⟩ := I1.list hq
    refine wpAny_pyIter_list p.isList ?_
    refine ⟨s1.heap.objs.size, [s1.heap.objs.size], _, _, H1, rfl, I1.kept (t' := s1.toks) fun b o e => Heap.get?_push_of_some _ e, turn_list a _, ⟨_, Heap.get?_push_size _ rfl, rfl, rfl⟩, fun b hb => ?_, q⟩
    have e : b = s1.heap.objs.size := by simpa using hb
    subst e
    exact I1.fpOk (Nat.le_refl _) (I1.hok.fresh (Nat.le_refl _))
  · subst e
    cases r1
    obtain ⟨its, rv, p, hz⟩ := I1.tuple hq
    refine wpAny_pyIter_tuple (show s1.heap.IsTuple a its.toArray from p) ?_
    refine ⟨s1.heap.objs.size, [s1.heap.objs.size], _, _, H1, rfl, I1.kept (t' := s1.toks) fun b o e => Heap.get?_push_of_some _ e, turn_tuple' a _ xs, ⟨_, Heap.get?_push_size _ rfl, rfl, rfl⟩, fun b hb => ?_, q⟩
    have e : b = s1.heap.objs.size := by simpa using hb
    subst e
    exact I1.fpOk (Nat.le_refl _) (I1.hok.fresh (Nat.le_refl _))
  · subst e
    obtain ⟨t, rfl⟩ := r1
    cases ha : z.cps.all (· < 128)
    · exact wpAny_pyIter_wide ha (pi_one (tk := s1.toks) I1 _ (turn_str _ z t "str_iterator" (.inr rfl)) ⟨_, Heap.get?_push_size _ rfl, rfl, rfl⟩ q)
    · exact wpAny_pyIter_ascii ha (pi_one (tk := s1.toks) I1 _ (turn_str _ z t "str_ascii_iterator" (.inl rfl)) ⟨_, Heap.get?_push_size _ rfl, rfl, rfl⟩ q)
/-- the items of what is walked -/
def itemsD : D → (List D → Prop) → Prop
  | .lst ds, Q => Q ds
  | .tup ds, Q => Q ds
  | .str s, Q => Q (s.map fun c => D.str [c])
  | _, _ => False
def wItems (f : WE) : WL := fun env Q Y => f env (fun d => itemsD d Q) Y
theorem di_any {tg e : Expr} {f : WE} (B : DB0 W X) (h : DE W G0 H0 E X e f) (fs : ∀ x, foldedSetIterable e X.env x = pure x := by intro _; rfl) : DI W G0 H0 E X tg e (wItems f) := by
  obtain ⟨m, t, p, q⟩ := h
  refine ⟨fun env Q Q' Y z w => m _ _ _ _ (fun d w => ?_) w, ⟨_, pi_any p, fun env σ G H R r w => ?_⟩, fs⟩
  · unfold itemsD at w ⊢
    split at w <;> first | exact z _ w | exact w
  · refine q env σ G H _ r (m _ _ _ _ (fun d w => ?_) w)
    intro v G1 H1 s1 rp
    unfold itemsD at w
    split at w
    · obtain ⟨a, xs, rfl, hs, r1⟩ := rep_lst rp
      exact .inl ⟨a, rfl, ⟨xs, SqL.at (s1.gok.le _ _ hs)⟩, w _ G1 H1 s1 (.list B.hK hs r1)⟩
    · obtain ⟨a, xs, rfl, hs, r1⟩ := rep_tup rp
      exact .inr (.inl ⟨a, xs, rfl, by rw [B.hK]; exact Same.sqT s1.gok.le hs, w _ G1 H1 s1 (.tup B.hK hs r1)⟩)
    · exact .inr (.inr ⟨_, rep_str rp, w _ G1 H1 s1 .str⟩)
    · exact w.elim
def rangeD (lo hi : Int) : List D := (List.range (hi - lo).toNat).map fun i : Nat => D.int (lo + (i : Int))
def wRange1 (f : WE) : WL := fun env Q Y => f env (fun d => ∃ n : Int, d = .int n ∧ -(2 ^ 62) ≤ n ∧ n < 2 ^ 62 ∧ Q (rangeD 0 n)) Y
theorem di_range1 {tg a : Expr} {f : WE} {p pos : Pos} (hg : Gl X "range") (hm : X.mg "range" = none) (ha : DE W G0 H0 E X a f) (hs : starEach [a] X.env = [(false, eval a X.env)] := by rfl) (fs : ∀ x, foldedSetIterable (.Call (.Name "range" p) [a] [] pos) X.env x = pure x := by intro _; rfl) :
    DI W G0 H0 E X tg (.Call (.Name "range" p) [a] [] pos) (wRange1 f) := by
  obtain ⟨m, t, pt, q⟩ := ha
  refine ⟨fun env Q Q' Y z w => m _ _ _ _ (fun d ⟨n, e, a, b, w⟩ => ⟨n, e, a, b, z _ w⟩) w, ⟨_, pi_range1 hg hm (pa_cons pt pa_nil hs) hs, fun env σ G H R r w => ?_⟩, fs⟩
  refine q env σ G H _ r (m _ _ _ _ (fun d w => ?_) w)
  obtain ⟨n, rfl, h1, h2, w⟩ := w
  intro v G1 H1 s1 rp
  refine ⟨n, by rw [rep_int rp], h1, h2, w _ G1 H1 s1 ?_⟩
  unfold rangeD
  rw [Int.sub_zero]
  exact .range
def wRange2 (f g : WE) : WL := fun env Q Y => f env (fun a => g env (fun b => ∃ i j : Int, a = .int i ∧ b = .int j ∧ (-(2 ^ 62) ≤ i ∧ i < 2 ^ 62 ∧ -(2 ^ 62) ≤ j ∧ j < 2 ^ 62) ∧ Q (rangeD i j)) Y) Y
theorem di_range2 {tg a b : Expr} {f g : WE} {p pos : Pos} (hg : Gl X "range") (hm : X.mg "range" = none) (ha : DE W G0 H0 E X a f) (hb : DE W G0 H0 E X b g) (hs : starEach [a, b] X.env = [(false, eval a X.env), (false, eval b X.env)] := by rfl) (hs2 : starEach [b] X.env = [(false, eval b X.env)] := by rfl)
    (fs : ∀ x, foldedSetIterable (.Call (.Name "range" p) [a, b] [] pos) X.env x = pure x := by intro _; rfl) :
    DI W G0 H0 E X tg (.Call (.Name "range" p) [a, b] [] pos) (wRange2 f g) := by
  obtain ⟨m, t, pt, q⟩ := ha
  obtain ⟨m', t', pt', q'⟩ := hb
  refine ⟨fun env Q Q' Y z w => m _ _ _ _ (fun d w => m' _ _ _ _ (fun d' ⟨i, j, e, a, b, w⟩ => ⟨i, j, e, a, b, z _ w⟩) w) w, ⟨_, pi_range2 hg hm (pa_cons pt (pa_cons pt' pa_nil hs2) (by rw [hs, hs2])) hs hs2, fun env σ G H R r w => ?_⟩, fs⟩
  refine q env σ G H _ r (m _ _ _ _ (fun d w => ?_) w)
  intro v G1 H1 s1 rp
  refine q' env σ G1 H1 _ (r.step s1) (m' _ _ _ _ (fun d' w => ?_) w)
  intro u G2 H2 s2 rp2
  obtain ⟨i, j, rfl, rfl, hb, w⟩ := w
  exact ⟨i, j, by rw [rep_int rp, rep_int rp2], hb, w _ G2 H2 (s1.trans s2) .range⟩
end
end DL
/-! zip and enumerate over lists, tuples, texts in any mix; comprehensions with two walks -/
namespace DL
open PySem PySem.Spec PyProof.Rows L2
inductive Src where
  | l (a : Addr) | t (a : Addr) | s (z : Str) (tk : Tok)
def Src.its (h : Heap) (it : Addr) (i : Nat) : Src → Prop
  | .l a => h.IsListIter it a i
  | .t a => h.IsTupleIter it a i
  | .s z tk => h.IsStrIter it (strIterType z) z tk i
def Src.has (K : PySem.W.Frag) (H : Hp) (xs : List V) : Src → Prop
  | .l a => SqL K H a xs
  | .t a => SqT K H a xs
  | .s z _ => xs = z.cps.toList.map fun c => V.str ⟨#[c]⟩
theorem Src.its_at {h h' : Heap} {it : Addr} {i : Nat} {r : Src} (x : r.its h it i) (k : ∀ o, h.get? it = some o → h'.get? it = some o) : r.its h' it i := by
  cases r with
  | l a => exact Heap.IsListIter.at x k
  | t a => exact Heap.IsTupleIter.at x k
  | s z tk => obtain ⟨o, ho, q⟩ := x; exact ⟨o, k o ho, q⟩
theorem Src.its_obj {h : Heap} {it : Addr} {i : Nat} {r : Src} (x : r.its h it i) : ∃ o n vs, h.get? it = some o ∧ o.cls = .type n ∧ o.data = .fields vs ∧ n ∈ ["list_iterator", "tuple_iterator", "str_ascii_iterator", "str_iterator"] := by
  cases r with
  | l a => obtain ⟨o, ho, hc, hd⟩ := x; exact ⟨o, _, _, ho, hc, hd, by simp⟩
  | t a => obtain ⟨o, ho, hc, hd⟩ := x; exact ⟨o, _, _, ho, hc, hd, by simp⟩
  | s z tk =>
    obtain ⟨o, ho, hc, hd⟩ := x
    refine ⟨o, _, _, ho, hc, hd, ?_⟩
    unfold strIterType
    split <;> simp
section
variable {X : Cx} {pins : List (Addr × Obj)} {σ : L2.St} {H : Hp} {s : Shared}
/-- a record of an iterator's is no object of the written part -/
theorem fp_noK {b a : Addr} {o : Obj} (I : L2.Inv X pins σ H s) (f : FpOk X pins H b) (e : X.K.lookup a = some o) : b ≠ a := fun z => by
  subst z
  have hb := I.ok.mod.kin _ _ e
  rcases f.2.2.2.1 with h | h
  · exact I.ok.noex _ _ hb h
  · have := (I.ok.bs _ _ hb).1
    exact absurd (Nat.lt_of_lt_of_le (Heap.lt_size this) h) (Nat.lt_irrefl _)
theorem fp_noTr {b a : Addr} {o : HO} (f : FpOk X pins H b) (e : H a = some o) : b ≠ a := fun z => by
  subst z
  rw [f.1] at e; cases e
/-- what such an iterator draws, as things stand -/
theorem Src.draws {A : Around} (hA : A.handled = none) {r : Src} {xs : List V} {it : Addr} {i : Nat} (I : L2.Inv X pins σ H s) (h : r.has X.K H xs) (st : r.its s.heap it i) (f : FpOk X pins H it) :
    ∃ (fp : List Addr) (P : Nat → Value → Prop) (St : Nat → Heap → Prop), Draws X.prog X.w A it fp xs.length P St ∧ St i s.heap ∧ it ∈ fp ∧ (∀ b ∈ fp, b = it ∨ ∀ c, FpOk X pins H c → c ≠ b) ∧
      (∀ j u, P j u → ∃ x, xs[j]? = some x ∧ RelV x u) ∧ ∀ j h', St j h' → r.its h' it j := by
  cases r with
  | l a =>
    obtain ⟨its, rv, p, _⟩ := I.list h
    have hl : ∀ c, FpOk X pins H c → c ≠ a := fun c fc => by
      rcases (show SqL X.K H a xs from h) with (h | ⟨o, h⟩) | ⟨o, _, _, e, _⟩
      · exact fp_noTr fc h
      · exact fp_noTr fc h
      · exact fp_noK I fc e
    have hlen : its.toArray.size = xs.length := by rw [List.size_toArray, rv.length]
    have D := Draws.list (prog := X.prog) (w := X.w) hA it a (Ne.symm (hl it f)) its.toArray
    rw [hlen] at D
    refine ⟨[it, a], _, _, D, ⟨st, p.isList⟩, by simp, fun b hb => ?_, fun j u hu => ?_, fun j h' q => q.1⟩
    · rcases List.mem_cons.mp hb with e | e
      · exact .inl e
      · rw [List.mem_singleton.mp e]; exact .inr hl
    · have hj : j < its.length := by
        have := (Array.getElem?_eq_some_iff.mp hu).1
        simpa using this
      have hj' : j < xs.length := by rw [rv.length]; exact hj
      obtain ⟨u', e1, r1⟩ := rv.get (List.getElem?_eq_getElem hj')
      have : u' = u := by
        have hu' : its[j]? = some u := by simpa using hu
        rw [e1] at hu'; exact Option.some.inj hu'
      subst this
      exact ⟨_, List.getElem?_eq_getElem hj', r1⟩
  | t a =>
    obtain ⟨its, rv, p, _⟩ := I.tuple h
    have hl : ∀ c, FpOk X pins H c → c ≠ a := fun c fc => by
      rcases (show SqT X.K H a xs from h) with (h | ⟨o, h⟩) | ⟨o, _, _, e, _⟩
      · exact fp_noTr fc h
      · exact fp_noTr fc h
      · exact fp_noK I fc e
    have hlen : its.toArray.size = xs.length := by rw [List.size_toArray, rv.length]
    have D := Draws.tuple (prog := X.prog) (w := X.w) hA it a (Ne.symm (hl it f)) its.toArray
    rw [hlen] at D
    refine ⟨[it, a], _, _, D, ⟨st, show s.heap.IsTuple a its.toArray from p⟩, by simp, fun b hb => ?_, fun j u hu => ?_, fun j h' q => q.1⟩
    · rcases List.mem_cons.mp hb with e | e
      · exact .inl e
      · rw [List.mem_singleton.mp e]; exact .inr hl
    · have hj : j < its.length := by
        have := (Array.getElem?_eq_some_iff.mp hu).1
        simpa using this
      have hj' : j < xs.length := by rw [rv.length]; exact hj
      obtain ⟨u', e1, r1⟩ := rv.get (List.getElem?_eq_getElem hj')
      have : u' = u := by
        have hu' : its[j]? = some u := by simpa using hu
        rw [e1] at hu'; exact Option.some.inj hu'
      subst this
      exact ⟨_, List.getElem?_eq_getElem hj', r1⟩
  | s z tk =>
    have hx : xs = z.cps.toList.map fun c => V.str ⟨#[c]⟩ := h
    have D := Draws.text (prog := X.prog) (w := X.w) hA it z tk
    have hlen : z.cps.size = xs.length := by rw [hx]; simp
    rw [hlen] at D
    refine ⟨[it], _, _, D, st, by simp, fun b hb => .inl (List.mem_singleton.mp hb), fun j u hu => ?_, fun j h' q => q⟩
    obtain ⟨c, tu, e1, rfl⟩ := hu
    refine ⟨.str ⟨#[c]⟩, ?_, ⟨tu, rfl⟩⟩
    rw [hx, List.getElem?_map]
    have : z.cps.toList[j]? = some c := by simpa using e1
    rw [this]; rfl
end
/-! ### zip -/
def ItzA (K : PySem.W.Frag) (r1 r2 : Src) (xs ys : List V) : It :=
  ⟨fun i H => r1.has K H xs ∧ r2.has K H ys ∧ i < xs.length ∧ i < ys.length,
    fun i H v H' => ∃ T x y, v = .ref T ∧ H T = none ∧ H' = upd H T (.tup [x, y]) ∧ xs[i]? = some x ∧ ys[i]? = some y,
    fun i H => r1.has K H xs ∧ r2.has K H ys ∧ (xs.length ≤ i ∨ ys.length ≤ i)⟩
structure ZDist (z TI TO i1 i2 : Addr) : Prop where
  TIz : TI ≠ z
  TOz : TO ≠ z
  i1z : i1 ≠ z
  i2z : i2 ≠ z
  TITO : TI ≠ TO
  TIi1 : TI ≠ i1
  TIi2 : TI ≠ i2
  TOi1 : TO ≠ i1
  TOi2 : TO ≠ i2
  i12 : i1 ≠ i2
theorem neNat {a b : Nat} (h : a ≠ b) : ((a : Addr) ≠ (b : Addr)) := h
theorem zdist (N : Nat) : ZDist (N + 4) (N + 2) (N + 3) N (N + 1) := by constructor <;> (refine neNat ?_; omega)
theorem turn_zipA {P : Program} {w : World} {K : PySem.W.Frag} {elts : List Expr} {kk : Nat} {tpos : Pos} {z TI TO i1 i2 : Addr} {r1 r2 : Src} {xs ys : List V} (D : ZDist z TI TO i1 i2) :
    Turn P w K (.Tuple elts kk tpos) (ItzA K r1 r2 xs ys) [z, TI, TO, i1, i2] z
      (fun i h => IsZip h z TI TO .none ∧ IsPair h TI (.ref i1) (.ref i2) ∧ (∃ x y, IsPair h TO x y) ∧ r1.its h i1 i ∧ r2.its h i2 i ∧ i ≤ xs.length ∧ i ≤ ys.length) where
  mem := by simp
  obj := fun i h st c hc => by
    obtain ⟨hz, hTI, ⟨x, y, hTO⟩, s1, s2, _⟩ := st
    obtain ⟨o1, _, _, e1, _, d1, _⟩ := Src.its_obj s1
    obtain ⟨o2, _, _, e2, _, d2, _⟩ := Src.its_obj s2
    have e' : c = z ∨ c = TI ∨ c = TO ∨ c = i1 ∨ c = i2 := by simpa using hc
    rcases e' with q | q | q | q | q
    · rw [q]; exact ⟨_, hz, fun v q => nomatch q⟩
    · rw [q]; exact ⟨_, hTI, fun v q => nomatch q⟩
    · rw [q]; exact ⟨_, hTO, fun v q => nomatch q⟩
    · rw [q]; exact ⟨o1, e1, fun v q => by rw [d1] at q; cases q⟩
    · rw [q]; exact ⟨o2, e2, fun v q => by rw [d2] at q; cases q⟩
  keep := fun i h h' st k => by
    obtain ⟨hz, hTI, ⟨x, y, hTO⟩, h1, h2, l⟩ := st
    exact ⟨k z (by simp) _ hz, k TI (by simp) _ hTI, ⟨x, y, k TO (by simp) _ hTO⟩, Src.its_at h1 fun o q => k i1 (by simp) o q, Src.its_at h2 fun o q => k i2 (by simp) o q, l⟩
  item := by
    intro X hP hw hK hc i pins s σ H E I hf st hg
    subst hP hw hK
    obtain ⟨hz, hTI, ⟨x0, y0, hTO⟩, st1, st2, _⟩ := st
    obtain ⟨a1, a2, l1, l2⟩ := hg
    have hA : X.A.in1.handled = none := I.ok.hd hc
    obtain ⟨fp1, P1, S1, D1, b1, m1, f1, p1, q1⟩ := Src.draws (A := X.A.in1) hA I a1 st1 (hf i1 (by simp))
    obtain ⟨fp2, P2, S2, D2, b2, m2, f2, p2, q2⟩ := Src.draws (A := X.A.in1) hA I a2 st2 (hf i2 (by simp))
    have nf : ∀ {c it : Addr} {fp : List Addr}, (∀ b ∈ fp, b = it ∨ ∀ c, FpOk X pins H c → c ≠ b) → FpOk X pins H c → c ≠ it → c ∉ fp := fun hfp fc n hm => by
      rcases hfp _ hm with e | e
      · exact n e
      · exact e _ fc rfl
    have SZ : ZipSep2 z TI TO i1 i2 fp1 fp2 := ⟨D.TIz, D.TOz, D.TITO, D.TIi1, m1, nf f1 (hf z (by simp)) (Ne.symm D.i1z), nf f1 (hf TO (by simp)) D.TOi1, D.TIi2, m2, nf f2 (hf z (by simp)) (Ne.symm D.i2z), nf f2 (hf TO (by simp)) D.TOi2,
      nf f2 (hf i1 (by simp)) D.i12, nf f1 (hf i2 (by simp)) (Ne.symm D.i12)⟩
    have hzl : z < s.heap.objs.size := Heap.lt_size hz
    refine wpAny_pyNext_zipD2_item SZ D1 D2 hz hTI hTO b1 b2 l1 l2 fun u1 u2 h' tk y1 y2 z' TO' c1 c2 hT hsz hk => ?_
    obtain ⟨x, ex, rx⟩ := p1 _ _ y1
    obtain ⟨y, ey, ry⟩ := p2 _ _ y2
    refine ⟨_, rfl, wpAny_letOwnedTupleGo_zip (s := { s with heap := h', toks := tk }) z' fun h'' z'' sb => ?_⟩
    have hT2 : h''.get? s.heap.objs.size = some { cls := .type "tuple", data := .seq #[u1, u2] } := (sb.2 _ (Nat.ne_of_gt hzl)).trans hT
    have new : ObjOk X.prog X.w (upd H s.heap.objs.size (.tup [x, y])) h'' s.heap.objs.size (.tup [x, y]) :=
      ⟨by show 2 ≤ sizeLine; decide, [u1, u2], .cons rx (.cons ry .nil), ⟨_, hT2, rfl, _, rfl⟩⟩
    have I1 : L2.Inv X pins σ (upd H s.heap.objs.size (.tup [x, y])) { s with heap := h'', toks := tk } :=
      I.turnedNew (ch := [z, TI, TO, i1, i2]) (fun c o hb q => (sb.2 c (fun q' => hb (by simp [q']))).trans (hk c o (fun q' => hb (by simp [q'])) (fun q' => hb (by simp [q'])) (fun q' => hb (by simp [q'])) (fun q' => hb (by simp [q'])) q)) hf (Nat.le_refl _) new
    refine ⟨.ref s.heap.objs.size, _, I1, rfl, ⟨_, x, y, rfl, I.hok.fresh (Nat.le_refl _), rfl, ex, ey⟩, ⟨z'', ?_, ⟨u1, u2, ?_⟩, ?_, ?_, l1, l2⟩, fun c hcm => ?_⟩
    · exact (sb.2 _ D.TIz).trans (hk _ _ D.TIz D.TITO D.TIi1 D.TIi2 hTI)
    · exact (sb.2 _ D.TOz).trans TO'
    · exact Src.its_at (q1 _ _ c1) fun o q => (sb.2 _ D.i1z).trans q
    · exact Src.its_at (q2 _ _ c2) fun o q => (sb.2 _ D.i2z).trans q
    · have hlt : c < s.heap.objs.size := by
        have e' : c = z ∨ c = TI ∨ c = TO ∨ c = i1 ∨ c = i2 := by simpa using hcm
        obtain ⟨o1, _, _, e1, _⟩ := Src.its_obj st1
        obtain ⟨o2, _, _, e2, _⟩ := Src.its_obj st2
        rcases e' with q | q | q | q | q
        · rw [q]; exact hzl
        · rw [q]; exact Heap.lt_size hTI
        · rw [q]; exact Heap.lt_size hTO
        · rw [q]; exact Heap.lt_size e1
        · rw [q]; exact Heap.lt_size e2
      rw [upd_ne (Nat.ne_of_lt hlt)]
      exact (hf c hcm).1
  done := by
    intro X hP hw hK hc i pins s σ H E I hf st hg
    subst hP hw hK
    obtain ⟨hz, hTI, ⟨x0, y0, hTO⟩, st1, st2, l1, l2⟩ := st
    obtain ⟨a1, a2, hend⟩ := hg
    have hA : X.A.in1.handled = none := I.ok.hd hc
    obtain ⟨fp1, P1, S1, D1, b1, m1, f1, p1, q1⟩ := Src.draws (A := X.A.in1) hA I a1 st1 (hf i1 (by simp))
    obtain ⟨fp2, P2, S2, D2, b2, m2, f2, p2, q2⟩ := Src.draws (A := X.A.in1) hA I a2 st2 (hf i2 (by simp))
    have nf : ∀ {c it : Addr} {fp : List Addr}, (∀ b ∈ fp, b = it ∨ ∀ c, FpOk X pins H c → c ≠ b) → FpOk X pins H c → c ≠ it → c ∉ fp := fun hfp fc n hm => by
      rcases hfp _ hm with e | e
      · exact n e
      · exact e _ fc rfl
    have SZ : ZipSep2 z TI TO i1 i2 fp1 fp2 := ⟨D.TIz, D.TOz, D.TITO, D.TIi1, m1, nf f1 (hf z (by simp)) (Ne.symm D.i1z), nf f1 (hf TO (by simp)) D.TOi1, D.TIi2, m2, nf f2 (hf z (by simp)) (Ne.symm D.i2z), nf f2 (hf TO (by simp)) D.TOi2,
      nf f2 (hf i1 (by simp)) D.i12, nf f1 (hf i2 (by simp)) (Ne.symm D.i12)⟩
    exact wpAny_pyNext_zipD2_end SZ D1 D2 hz hTI hTO b1 b2 l1 l2 (by omega) fun h' tk hk => ⟨rfl, I.turnedL (t' := tk) (ch := [z, TI, TO, i1, i2]) (fun c o hb q =>
      hk c o (fun q' => hb (by simp [q'])) (fun q' => hb (by simp [q'])) (fun q' => hb (by simp [q'])) (fun q' => hb (by simp [q'])) q) hf⟩
  self := fun A i s Q E st h => wpAny_pyIter_zip st.1 h
/-- a value that is walked, by its source -/
def srcOf (K : PySem.W.Frag) (H : Hp) (v : V) (r : Src → Prop) (xs : List V) : Prop :=
  (∃ a, v = .ref a ∧ SqL K H a xs ∧ r (.l a)) ∨ (∃ a, v = .ref a ∧ SqT K H a xs ∧ r (.t a)) ∨ (∃ z, v = .str z ∧ (xs = z.cps.toList.map fun c => V.str ⟨#[c]⟩) ∧ ∀ tk, r (.s z tk))
theorem begins_of {X : Cx} {pins : List (Addr × Obj)} {σ : L2.St} {H : Hp} {s : Shared} {v : V} {u : Value} {xs : List V} {Rr : Src → Prop} (I : L2.Inv X pins σ H s) (ru : RelV v u) (h : srcOf X.K H v Rr xs) :
    ∃ r : Src, Rr r ∧ r.has X.K H xs ∧ ∃ (o : Obj) (HH : Heap → Prop), Begins u o HH ∧ HH s.heap ∧ ∀ h' it, h'.get? it = some o → r.its h' it 0 := by
  rcases h with ⟨a, rfl, hs, hr⟩ | ⟨a, rfl, hs, hr⟩ | ⟨z, rfl, hs, hr⟩
  · cases ru
    obtain ⟨its, rv, p, _⟩ := I.list hs
    exact ⟨.l a, hr, hs, _, _, begins_list a its.toArray, p.isList, fun h' it e => ⟨_, e, rfl, rfl⟩⟩
  · cases ru
    obtain ⟨its, rv, p, _⟩ := I.tuple hs
    exact ⟨.t a, hr, hs, _, _, begins_tuple a its.toArray, (show s.heap.IsTuple a its.toArray from p), fun h' it e => ⟨_, e, rfl, rfl⟩⟩
  · obtain ⟨t, rfl⟩ := ru
    exact ⟨.s z t, hr t, hs, _, _, begins_text z t, trivial, fun h' it e => ⟨_, e, rfl, rfl⟩⟩
def iZipA (K : PySem.W.Frag) (ta : TA) : TI := fun σ H R => ta σ H fun vs H1 => ∃ v1 v2 xs ys, vs = [v1, v2] ∧ srcOf K H1 v1 (fun r1 => srcOf K H1 v2 (fun r2 => R (ItzA K r1 r2 xs ys) H1) ys) xs
theorem pi_zipA {X : Cx} {e e2 : Expr} {ta : TA} {p pos tpos : Pos} {elts : List Expr} {kk : Nat} (hg : Gl X "zip") (hm : X.mg "zip" = none) (ha : PA X [e, e2] ta)
    (hs : starEach [e, e2] X.env = (false, eval e X.env) :: starEach [e2] X.env := by rfl) (hpl : (backTo pos (starEach [e2] X.env)).any (·.1) = false := by rfl) :
    PI X (.Tuple elts kk tpos) (.Call (.Name "zip" p) [e, e2] [] pos) (iZipA X.K ta) := by
  refine ⟨fun pins s σ H R I h => ?_⟩
  refine Call_ (ld_blt I hg hm PyProof.Rows.boot_zip (PyProof.Rows.callWith_type1 (thn (ha.run pos pins s σ H _ I h) fun us s1 ⟨vs, H1, I1, r1, q1⟩ => ?_) hs hpl))
  obtain ⟨v1, v2, xs, ys, ex, hq⟩ := q1
  subst ex
  cases r1 with
  | cons ra rr =>
    cases rr with
    | cons rb rr =>
      cases rr
      obtain ⟨s1r, hr2, has1, o1, HH1, B1, hh1, k1⟩ := begins_of I1 ra hq
      obtain ⟨s2r, q, has2, o2, HH2, B2, hh2, k2⟩ := begins_of I1 rb hr2
      refine zip_begins2 B1 B2 hh1 hh2 fun h' hz hTI hTO g1 g2 hsz hk => wpAny_pyIter_zip hz ?_
      have I2 : L2.Inv X pins σ H1 { s1 with heap := h' } := I1.kept (t' := s1.toks) hk
      refine ⟨s1.heap.objs.size + 4, [s1.heap.objs.size + 4, s1.heap.objs.size + 2, s1.heap.objs.size + 3, s1.heap.objs.size, s1.heap.objs.size + 1], _, _, H1, rfl, I2,
        turn_zipA (zdist _), ⟨hz, hTI, ⟨_, _, hTO⟩, k1 _ _ g1, k2 _ _ g2, Nat.zero_le _, Nat.zero_le _⟩, fun c hcm => ?_, q⟩
      have e' : c = s1.heap.objs.size + 4 ∨ c = s1.heap.objs.size + 2 ∨ c = s1.heap.objs.size + 3 ∨ c = s1.heap.objs.size ∨ c = s1.heap.objs.size + 1 := by simpa using hcm
      have hle : s1.heap.objs.size ≤ c := by
        rcases e' with z | z | z | z | z
        · rw [z]; exact Nat.le_add_right _ _
        · rw [z]; exact Nat.le_add_right _ _
        · rw [z]; exact Nat.le_add_right _ _
        · rw [z]; exact Nat.le_refl _
        · rw [z]; exact Nat.le_add_right _ _
      exact I1.fpOk hle (I1.hok.fresh hle)
section
variable {W : Wd} {G0 H0 G G' H H' : Hp} {E : XK} {X : Cx} {k n : Nat} {env : Env1} {σ : L2.St}
def zipD (xs ys : List D) : List D := (xs.zip ys).map fun p => D.tup [p.1, p.2]
def wZip (f g : WE) : WL := fun env Q Y => f env (fun a => g env (fun b => itemsD a (fun xs => itemsD b (fun ys => Q (zipD xs ys)))) Y) Y
theorem itemsD_mono {d : D} {Q Q' : List D → Prop} (z : ∀ ds, Q ds → Q' ds) (h : itemsD d Q) : itemsD d Q' := by
  unfold itemsD at h ⊢
  split at h <;> first | exact z _ h | exact h
/-- where the items stand -/
theorem src_items {d : D} {v : V} {Q : List D → Prop} (hK : X.K = W.K) (g : GOk W G H) (r : rep W.K G d v) (h : itemsD d Q) {Rr : List D → List V → Src → Prop}
    (hr : ∀ ds xs (sr : Src), Q ds → reps W.K G ds xs → (∀ G' H', GOk W G' H' → Same G G' → sr.has X.K H' xs) → Rr ds xs sr) : ∃ ds xs, Q ds ∧ srcOf X.K H v (Rr ds xs) xs := by
  unfold itemsD at h
  split at h
  · obtain ⟨a, xs, rfl, hs, r1⟩ := rep_lst r
    exact ⟨_, xs, h, .inl ⟨a, rfl, SqL.at (g.le _ _ hs), hr _ _ _ h r1 fun G' H' g' s' => SqL.at (g'.le _ _ (s' _ _ hs))⟩⟩
  · obtain ⟨a, xs, rfl, hs, r1⟩ := rep_tup r
    rw [hK]
    exact ⟨_, xs, h, .inr (.inl ⟨a, rfl, Same.sqT g.le hs, hr _ _ _ h r1 fun G' H' g' s' => by rw [hK]; exact Same.sqT (s'.trans g'.le) hs⟩)⟩
  · refine ⟨_, _, h, .inr (.inr ⟨_, rep_str r, rfl, fun tk => hr _ _ _ h ?_ fun G' H' g' s' => rfl⟩)⟩
    rw [zs_list]
    exact reps_map (fun c => rep_str') _
  · exact h.elim
theorem di_zip {elts : List Expr} {kk : Nat} {tpos : Pos} {a b : Expr} {f g : WE} {p pos : Pos} (B : DB0 W X) (hg : Gl X "zip") (hm : X.mg "zip" = none) (ha : DE W G0 H0 E X a f) (hb : DE W G0 H0 E X b g)
    (hs : starEach [a, b] X.env = (false, eval a X.env) :: starEach [b] X.env := by rfl) (hs2 : starEach [b] X.env = (false, eval b X.env) :: starEach [] X.env := by rfl) (hpl : (backTo pos (starEach [b] X.env)).any (·.1) = false := by rfl)
    (fs : ∀ x, foldedSetIterable (.Call (.Name "zip" p) [a, b] [] pos) X.env x = pure x := by intro _; rfl) : DI W G0 H0 E X (.Tuple elts kk tpos) (.Call (.Name "zip" p) [a, b] [] pos) (wZip f g) := by
  obtain ⟨m, t, pt, q⟩ := ha
  obtain ⟨m', t', pt', q'⟩ := hb
  refine ⟨fun env Q Q' Y z w => m _ _ _ _ (fun d w => m' _ _ _ _ (fun d' w => itemsD_mono (fun xs w => itemsD_mono (fun ys w => z _ w) w) w) w) w, ⟨_, pi_zipA hg hm (pa_cons pt (pa_cons pt' pa_nil hs2) hs) hs hpl, fun env σ G H R r w => ?_⟩, fs⟩
  refine q env σ G H _ r (m _ _ _ _ (fun d w => ?_) w)
  intro v G1 H1 s1 rp
  refine q' env σ G1 H1 _ (r.step s1) (m' _ _ _ _ (fun d' w => ?_) w)
  intro u G2 H2 s2 rp2
  have rp1 := rep_mono s2.le _ _ rp
  have st := s1.trans s2
  -- the second's items, then the first's
  obtain ⟨ds, xs, w1, h1⟩ := src_items (X := X) B.hK s2.gok rp1 w (Rr := fun ds xs sr => ds.length = xs.length ∧ reps W.K G2 ds xs ∧ ∀ G' H', GOk W G' H' → Same G2 G' → sr.has X.K H' xs) fun ds xs sr _ r1 h => ⟨r1.length.symm, r1, h⟩
  obtain ⟨es, ys, w2, h2⟩ := src_items (X := X) B.hK s2.gok rp2 w1 (Rr := fun ds xs sr => ds.length = xs.length ∧ reps W.K G2 ds xs ∧ ∀ G' H', GOk W G' H' → Same G2 G' → sr.has X.K H' xs) fun ds xs sr _ r1 h => ⟨r1.length.symm, r1, h⟩
  refine ⟨v, u, xs, ys, rfl, ?_⟩
  have imp : ∀ {v : V} {xs : List V} {A B : Src → Prop}, (∀ r, A r → B r) → srcOf X.K H2 v A xs → srcOf X.K H2 v B xs := fun {v xs A B} z h => by
    rcases h with ⟨a, e, h, q⟩ | ⟨a, e, h, q⟩ | ⟨a, e, h, q⟩
    · exact .inl ⟨a, e, h, z _ q⟩
    · exact .inr (.inl ⟨a, e, h, z _ q⟩)
    · exact .inr (.inr ⟨a, e, h, fun tk => z _ (q tk)⟩)
  refine imp (fun r1 ⟨l1, ra, hr1⟩ => imp (fun r2 ⟨l2, rb, hr2⟩ => ?_) h2) h1
  refine w2 _ G2 H2 st ⟨fun G' H' i d g s e => ?_, fun G' H' i d x H'' g s e hy => ?_, fun G' H' i g s e => ?_⟩
  · have hi := (List.getElem?_eq_some_iff.mp e).1
    unfold zipD at hi
    rw [List.length_map, List.length_zip] at hi
    exact ⟨hr1 G' H' g s, hr2 G' H' g s, by omega, by omega⟩
  · obtain ⟨T, x1, x2, rfl, nT, rfl, e1, e2⟩ := hy
    unfold zipD at e
    rw [List.getElem?_map] at e
    obtain ⟨pq, ez, rfl⟩ := Option.map_eq_some_iff.mp e
    obtain ⟨ea, eb⟩ := List.getElem?_zip_eq_some.mp ez
    obtain ⟨y1, k1, k2⟩ := ra.get ea
    obtain ⟨y2, k3, k4⟩ := rb.get eb
    rw [e1] at k1; cases k1
    rw [e2] at k3; cases k3
    refine ⟨_, Gst.alloc g _ nT, ?_⟩
    unfold rep
    have sm := s.trans (same_new (o := HO.tup [x1, x2]) (g.nn nT))
    exact ⟨T, _, rfl, .inl (.inl upd_same), .cons (rep_mono sm _ _ k2) (.cons (rep_mono sm _ _ k4) .nil)⟩
  · unfold zipD at e
    rw [List.length_map, List.length_zip] at e
    exact ⟨hr1 G' H' g s, hr2 G' H' g s, by omega⟩
end

/-! ### enumerate -/
def IteA (K : PySem.W.Frag) (r : Src) (xs : List V) : It :=
  ⟨fun i H => r.has K H xs ∧ i < xs.length, fun i H v H' => ∃ T x, v = .ref T ∧ H T = none ∧ H' = upd H T (.tup [.int (i : Nat), x]) ∧ xs[i]? = some x, fun i H => r.has K H xs ∧ xs.length ≤ i⟩
theorem turn_enumA {P : Program} {w : World} {K : PySem.W.Frag} {elts : List Expr} {kk : Nat} {tpos : Pos} (r : Src) (xs : List V) (e it : Addr) :
    Turn P w K (.Tuple elts kk tpos) (IteA K r xs) [e, it] e (fun i h => (∃ old, IsEnum h e it ((i : Nat) : Int) old) ∧ r.its h it i ∧ e ≠ it ∧ i ≤ xs.length) where
  mem := by simp
  obj := fun i h st b hb => by
    obtain ⟨⟨old, he⟩, hi, _⟩ := st
    obtain ⟨o, _, _, ho, _, hd, _⟩ := Src.its_obj hi
    have e' : b = e ∨ b = it := by simpa using hb
    rcases e' with z | z
    · rw [z]; exact ⟨_, he, fun v q => nomatch q⟩
    · rw [z]; exact ⟨o, ho, fun v q => by rw [hd] at q; cases q⟩
  keep := fun i h h' st k => let ⟨⟨old, he⟩, hi, hne, l⟩ := st; ⟨⟨old, k e (by simp) _ he⟩, Src.its_at hi fun o q => k it (by simp) o q, hne, l⟩
  item := by
    intro X hP hw hK hc i pins s σ H E I hf st hg
    subst hP hw hK
    obtain ⟨⟨old, he⟩, hit, hne, _⟩ := st
    obtain ⟨has, hx⟩ := hg
    have hA : X.A.in1.handled = none := I.ok.hd hc
    obtain ⟨fp, Pp, St, D, b1, m1, f1, p1, q1⟩ := Src.draws (A := X.A.in1) hA I has hit (hf it (by simp))
    have hef : e ∉ fp := fun hm => by
      rcases f1 _ hm with z | z
      · exact hne z
      · exact z _ (hf e (by simp)) rfl
    have hel : e < s.heap.objs.size := Heap.lt_size he
    have hil : it < s.heap.objs.size := by obtain ⟨_, _, _, q, _⟩ := Src.its_obj hit; exact Heap.lt_size q
    refine wpAny_pyNext_enum_itemD D he b1 hx hne hef fun u h' tk hu ho hit' hT hsz hk => ?_
    obtain ⟨x, ex, rx⟩ := p1 _ _ hu
    refine ⟨_, rfl, wpAny_letOwnedTupleGo_enum (s := { s with heap := h', toks := tk + 1 }) ho fun h'' he' sb => ?_⟩
    have hT2 : h''.get? s.heap.objs.size = some { cls := .type "tuple", data := .seq #[.int i tk, u] } := (sb.2 _ (Nat.ne_of_gt hel)).trans hT
    have new : ObjOk X.prog X.w (upd H s.heap.objs.size (.tup [.int (i : Nat), x])) h'' s.heap.objs.size (.tup [.int (i : Nat), x]) :=
      ⟨by show 2 ≤ sizeLine; decide, [.int i tk, u], .cons ⟨_, rfl⟩ (.cons rx .nil), ⟨_, hT2, rfl, _, rfl⟩⟩
    have I1 : L2.Inv X pins σ (upd H s.heap.objs.size (.tup [.int (i : Nat), x])) { s with heap := h'', toks := tk + 1 } :=
      I.turnedNew (ch := [e, it]) (fun b ob hb q => (sb.2 b (fun z => hb (by simp [z]))).trans (hk b ob (fun z => hb (by simp [z])) (fun z => hb (by simp [z])) q)) hf (Nat.le_refl _) new
    refine ⟨.ref s.heap.objs.size, _, I1, rfl, ⟨_, x, rfl, I.hok.fresh (Nat.le_refl _), rfl, ex⟩, ⟨⟨u, ?_⟩, Src.its_at (q1 _ _ hit') fun o q => (sb.2 it (Ne.symm hne)).trans q, hne, hx⟩, fun b hb => ?_⟩
    · have e1 : ((i + 1 : Nat) : Int) = (i : Int) + 1 := by omega
      rw [e1]; exact he'
    · have hb' : b < s.heap.objs.size := by
        have e' : b = e ∨ b = it := by simpa using hb
        rcases e' with z | z
        · rw [z]; exact hel
        · rw [z]; exact hil
      rw [upd_ne (Nat.ne_of_lt hb')]
      exact (hf b hb).1
  done := by
    intro X hP hw hK hc i pins s σ H E I hf st hg
    subst hP hw hK
    obtain ⟨⟨old, he⟩, hit, hne, hle⟩ := st
    obtain ⟨has, hx⟩ := hg
    have hA : X.A.in1.handled = none := I.ok.hd hc
    obtain ⟨fp, Pp, St, D, b1, m1, f1, p1, q1⟩ := Src.draws (A := X.A.in1) hA I has hit (hf it (by simp))
    obtain ⟨f0, f1', f2, f3, f4, f5⟩ := hf it (by simp)
    have e0 : i = xs.length := Nat.le_antisymm hle hx
    subst e0
    exact wpAny_pyNext_enum_endD D he b1 fun h' eb => ⟨rfl, I.turned (t' := s.toks) (fun b o hb q => eb b o hb q) f0 f1' f3 f4 f5⟩
  self := fun A i s Q E st h => let ⟨⟨_, he⟩, _⟩ := st; wpAny_pyIter_enum he h
def iEnumA (K : PySem.W.Frag) (ta : TA) : TI := fun σ H R => ta σ H fun vs H1 => ∃ v xs, vs = [v] ∧ ((∃ a, v = .ref a ∧ SqL K H1 a xs ∧ R (IteA K (.l a) xs) H1) ∨ (∃ z, v = .str z ∧ (xs = z.cps.toList.map fun c => V.str ⟨#[c]⟩) ∧ ∀ tk, R (IteA K (.s z tk) xs) H1))
theorem pi_enumA {X : Cx} {e : Expr} {ta : TA} {p pos tpos : Pos} {elts : List Expr} {kk : Nat} (hg : Gl X "enumerate") (hm : X.mg "enumerate" = none) (ha : PA X [e] ta) (hs : starEach [e] X.env = [(false, eval e X.env)] := by rfl) :
    PI X (.Tuple elts kk tpos) (.Call (.Name "enumerate" p) [e] [] pos) (iEnumA X.K ta) := by
  refine ⟨fun pins s σ H R I h => ?_⟩
  refine Call_ (ld_blt I hg hm boot_enumerate (PyProof.Rows.callWith_type1 (thn (ha.run pos pins s σ H _ I h) fun us s1 ⟨vs, H1, I1, r1, q1⟩ => ?_) hs rfl))
  obtain ⟨v, xs, ex, hq⟩ := q1
  subst ex
  have fin : ∀ b : Addr, b ∈ [s1.heap.objs.size + 1, s1.heap.objs.size] → FpOk X pins H1 b := fun b hb => by
    have e' : b = s1.heap.objs.size + 1 ∨ b = s1.heap.objs.size := by simpa using hb
    have hle : s1.heap.objs.size ≤ b := by
      rcases e' with z | z
      · rw [z]; exact Nat.le_add_right _ _
      · rw [z]; exact Nat.le_refl _
    exact I1.fpOk hle (I1.hok.fresh hle)
  cases r1 with
  | cons r rr =>
    cases rr
    rcases hq with ⟨a, rfl, hs, q⟩ | ⟨z, rfl, hs, q⟩
    · cases r
      obtain ⟨its, rv, p', hz⟩ := I1.list hs
      refine call_enumerate_list p'.isList fun h' he hit hsz hk => wpAny_pyIter_enum he ?_
      have I2 : L2.Inv X pins σ H1 { s1 with heap := h' } := I1.kept (t' := s1.toks) hk
      exact ⟨s1.heap.objs.size + 1, [s1.heap.objs.size + 1, s1.heap.objs.size], _, _, H1, rfl, I2, turn_enumA (.l a) xs (s1.heap.objs.size + 1) s1.heap.objs.size, ⟨⟨.none, he⟩, hit, Nat.succ_ne_self _, Nat.zero_le _⟩, fin, q⟩
    · obtain ⟨t, rfl⟩ := r
      refine call_enumerate_str fun h' he hit hsz hk => wpAny_pyIter_enum he ?_
      have I2 : L2.Inv X pins σ H1 { s1 with heap := h' } := I1.kept (t' := s1.toks) hk
      exact ⟨s1.heap.objs.size + 1, [s1.heap.objs.size + 1, s1.heap.objs.size], _, _, H1, rfl, I2, turn_enumA (.s z t) xs (s1.heap.objs.size + 1) s1.heap.objs.size, ⟨⟨.none, he⟩, hit, Nat.succ_ne_self _, Nat.zero_le _⟩, fin, q t⟩
section
variable {W : Wd} {G0 H0 G G' H H' : Hp} {E : XK} {X : Cx} {k n : Nat} {env : Env1} {σ : L2.St}
def enumD (xs : List D) : List D := xs.zipIdx.map fun p => D.tup [.int (p.2 : Int), p.1]
def wEnum (f : WE) : WL := fun env Q Y => f env (fun a => (∀ ds, a ≠ .tup ds) ∧ itemsD a (fun xs => Q (enumD xs))) Y
theorem di_enum {elts : List Expr} {kk : Nat} {tpos : Pos} {a : Expr} {f : WE} {p pos : Pos} (B : DB0 W X) (hg : Gl X "enumerate") (hm : X.mg "enumerate" = none) (ha : DE W G0 H0 E X a f)
    (hs : starEach [a] X.env = [(false, eval a X.env)] := by rfl) (fs : ∀ x, foldedSetIterable (.Call (.Name "enumerate" p) [a] [] pos) X.env x = pure x := by intro _; rfl) : DI W G0 H0 E X (.Tuple elts kk tpos) (.Call (.Name "enumerate" p) [a] [] pos) (wEnum f) := by
  obtain ⟨m, t, pt, q⟩ := ha
  refine ⟨fun env Q Q' Y z w => m _ _ _ _ (fun d ⟨nt, w⟩ => ⟨nt, itemsD_mono (fun xs w => z _ w) w⟩) w, ⟨_, pi_enumA hg hm (pa_cons pt pa_nil hs) hs, fun env σ G H R r w => ?_⟩, fs⟩
  refine q env σ G H _ r (m _ _ _ _ (fun d w => ?_) w)
  intro v G1 H1 s1 rp
  have key : ∀ (sr : Src) (xs : List V) (ds : List D), reps W.K G1 ds xs → (∀ G' H', GOk W G' H' → Same G1 G' → sr.has X.K H' xs) → Itok W (IteA X.K sr xs) G1 (enumD ds) := fun sr xs ds ra hr => by
    refine ⟨fun G' H' i d g s e => ?_, fun G' H' i d x H'' g s e hy => ?_, fun G' H' i g s e => ?_⟩
    · have hi := (List.getElem?_eq_some_iff.mp e).1
      unfold enumD at hi
      rw [List.length_map, List.length_zipIdx] at hi
      exact ⟨hr G' H' g s, by rw [ra.length]; exact hi⟩
    · obtain ⟨T, x1, rfl, nT, rfl, e1⟩ := hy
      unfold enumD at e
      rw [List.getElem?_map] at e
      obtain ⟨pq, ez, rfl⟩ := Option.map_eq_some_iff.mp e
      rw [List.getElem?_zipIdx] at ez
      obtain ⟨y, ea, rfl⟩ := Option.map_eq_some_iff.mp ez
      obtain ⟨y1, k1, k2⟩ := ra.get ea
      rw [e1] at k1; cases k1
      refine ⟨_, Gst.alloc g _ nT, ?_⟩
      unfold rep
      have sm := s.trans (same_new (o := HO.tup [.int (i : Nat), x1]) (g.nn nT))
      refine ⟨T, _, rfl, .inl (.inl upd_same), .cons ?_ (.cons (rep_mono sm _ _ k2) .nil)⟩
      show rep W.K _ (.int ((0 + i : Nat) : Int)) _
      rw [Nat.zero_add]
      exact rep_int'
    · unfold enumD at e
      rw [List.length_map, List.length_zipIdx] at e
      exact ⟨hr G' H' g s, by rw [ra.length]; exact e⟩
  obtain ⟨nt, w⟩ := w
  unfold itemsD at w
  split at w
  · obtain ⟨a, xs, rfl, hs, r1⟩ := rep_lst rp
    exact ⟨_, xs, rfl, .inl ⟨a, rfl, SqL.at (s1.gok.le _ _ hs), w _ G1 H1 s1 (key _ xs _ r1 fun G' H' g' s' => SqL.at (g'.le _ _ (s' _ _ hs)))⟩⟩
  · exact (nt _ rfl).elim
  · refine ⟨_, _, rfl, .inr ⟨_, rep_str rp, rfl, fun tk => w _ G1 H1 s1 (key _ _ _ ?_ fun G' H' g' s' => rfl)⟩⟩
    rw [zs_list]
    exact reps_map (fun c => rep_str') _
  · exact w.elim
end
end DL
/-! comprehensions by families of places; two walks; lambdas -/
namespace DL
open PySem PySem.Spec PyProof.Rows L2
section
variable {W : Wd} {G0 H0 G G' H H' : Hp} {E : XK} {X : Cx} {k n : Nat} {env : Env1} {σ : L2.St}
/-- the weakest reading that a data reading gives -/
def tCan (W : Wd) (G0 H0 : Hp) (E : XK) (f : WE) : TE := fun σ H Q => ∃ env G, RelS W G0 H0 env σ G H ∧ f env (QE W G H Q) (XOk W G0 H0 E)
def tCanT (W : Wd) (G0 H0 : Hp) (E : XK) (f : WT) : TT := fun σ H Q => ∃ env G, RelS W G0 H0 env σ G H ∧ f env (QT W G H Q) (XOk W G0 H0 E)
def tCanI (W : Wd) (G0 H0 : Hp) (E : XK) (f : WL) : TI := fun σ H R => ∃ env G, RelS W G0 H0 env σ G H ∧ f env (fun ds => ∀ J G' H', Gst W G H G' H' → Itok W J G' ds → R J H') (XOk W G0 H0 E)
def tCanG (W : Wd) (G0 H0 : Hp) (js : List Nat) (w : WG) : TG := fun v σ H Q => ∃ env G d, RelS W G0 H0 env σ G H ∧ rep W.K G d v ∧ w env d (fun env' => ∀ σ', RelS W G0 H0 env' σ' G H → (∀ vs : List Nat, (∀ j ∈ js, j ∈ vs) → wipe σ' vs = wipe σ vs) → Q σ' H)
theorem PE.imp {e : Expr} {t u : TE} (h : PE X e t) (z : ∀ σ H Q, u σ H Q → t σ H Q) : PE X e u := ⟨fun pins s σ H Q I w => h.run pins s σ H Q I (z _ _ _ w)⟩
theorem DE.can {e : Expr} {f : WE} (h : DE W G0 H0 E X e f) : PE X e (tCan W G0 H0 E f) := by
  obtain ⟨_, t, p, q⟩ := h
  exact PE.imp p fun σ H Q ⟨env, G, r, w⟩ => q env σ G H Q r w
theorem DTs.can {ifs : List Expr} {f : WT} (h : DTs W G0 H0 E X ifs f) : PTs X ifs (tCanT W G0 H0 E f) := by
  obtain ⟨_, t, p, q⟩ := h
  exact ⟨fun pins s σ H Q I ⟨env, G, r, w⟩ => p.run pins s σ H Q I (q env σ G H Q r w)⟩
theorem DI.can {tg it : Expr} {f : WL} (h : DI W G0 H0 E X tg it f) : PI X tg it (tCanI W G0 H0 E f) := by
  obtain ⟨_, ⟨t, p, q⟩, _⟩ := h
  exact ⟨fun pins s σ H R I ⟨env, G, r, w⟩ => p.run pins s σ H R I (q env σ G H R r w)⟩
theorem DG.can {tg : Expr} {js : List Nat} {w : WG} (h : DG W G0 H0 X tg js w) : PG X tg (tCanG W G0 H0 js w) := by
  obtain ⟨_, _, t, p, q⟩ := h
  exact ⟨fun pins s σ H v u Q I r ⟨env, G, d, rs, rp, z⟩ => p.run pins s σ H v u Q I r (q env σ G H v d Q rs rp z)⟩
theorem dfp_comp {P : TE → Prop} {elt tg iter : Expr} {ifs : List Expr} {scope : Scope} {own : List (Str × Nat)} {fi : WL} {js : List Nat} {w : WG} {ft : WT} {fe : WE} (C : DC W E k X) (ok : BlkOk X.N X.env.scope scope own)
    (hi : DI W G0 H0 E X tg iter fi) (hjs : ∀ j ∈ js, j ∈ own.map (·.2))
    (hg : ∀ (s : Shared) (H : Hp) (a : Addr) (cl : List (Str × Addr)) (fp : List Addr), DG W G0 H0 (bx X scope s H a cl fp) tg js w)
    (ht : ∀ (s : Shared) (H : Hp) (a : Addr) (cl : List (Str × Addr)) (fp : List Addr), DC W E0 k (bx X scope s H a cl fp) → DTs W G0 H0 E0 (bx X scope s H a cl fp) ifs ft)
    (he : ∀ (s : Shared) (H : Hp) (a : Addr) (cl : List (Str × Addr)) (fp : List Addr), DC W E0 k (bx X scope s H a cl fp) → DE W G0 H0 E0 (bx X scope s H a cl fp) elt fe)
    (hpt : ∀ {wi : TI} {g : TG} {tt : TT} {te : TE}, PI X tg iter wi → (∀ (s : Shared) (H : Hp) (a : Addr) (cl : List (Str × Addr)) (fp : List Addr), PG (bx X scope s H a cl fp) tg g) → (∀ (s : Shared) (H : Hp) (a : Addr) (cl : List (Str × Addr)) (fp : List Addr), PTs (bx X scope s H a cl fp) ifs tt) →
      (∀ (s : Shared) (H : Hp) (a : Addr) (cl : List (Str × Addr)) (fp : List Addr), PE (bx X scope s H a cl fp) elt te) → (∀ x, foldedSetIterable iter X.env x = pure x) → P (tLc wi g tt te (own.map (·.2)))) :
    DFp W G0 H0 E P (wLc fi w ft fe (own.map (·.2))) := by
  have he0 := he {} (fun _ => none) (0 : Nat) [] [] (C.blk _ _ _ _ _ _)
  have ht0 := ht {} (fun _ => none) (0 : Nat) [] [] (C.blk _ _ _ _ _ _)
  have hg0 := hg {} (fun _ => none) (0 : Nat) [] []
  exact dfp_lc C ok hi hjs ⟨_, fun s H a cl fp => (hg s H a cl fp).can, hg0.mono, fun env σ G H v d Q r rp w => ⟨env, G, d, r, rp, w⟩⟩
    ⟨_, fun s H a cl fp => (ht s H a cl fp (C.blk _ _ _ _ _ _)).can, ht0.mono, fun env σ G H Q r w => ⟨env, G, r, w⟩⟩
    ⟨_, fun s H a cl fp => (he s H a cl fp (C.blk _ _ _ _ _ _)).can, he0.mono, fun env σ G H Q r w => ⟨env, G, r, w⟩⟩ hpt
theorem df_comp {elt tg iter : Expr} {ifs : List Expr} {scope : Scope} {own : List (Str × Nat)} {pos : Pos} {fi : WL} {js : List Nat} {w : WG} {ft : WT} {fe : WE} (C : DC W E k X) (ok : BlkOk X.N X.env.scope scope own)
    (hi : DI W G0 H0 E X tg iter fi) (hjs : ∀ j ∈ js, j ∈ own.map (·.2))
    (hg : ∀ (s : Shared) (H : Hp) (a : Addr) (cl : List (Str × Addr)) (fp : List Addr), DG W G0 H0 (bx X scope s H a cl fp) tg js w)
    (ht : ∀ (s : Shared) (H : Hp) (a : Addr) (cl : List (Str × Addr)) (fp : List Addr), DC W E0 k (bx X scope s H a cl fp) → DTs W G0 H0 E0 (bx X scope s H a cl fp) ifs ft)
    (he : ∀ (s : Shared) (H : Hp) (a : Addr) (cl : List (Str × Addr)) (fp : List Addr), DC W E0 k (bx X scope s H a cl fp) → DE W G0 H0 E0 (bx X scope s H a cl fp) elt fe) :
    DF W G0 H0 E X (.ListComp elt [⟨tg, iter, ifs, 0⟩] scope pos) (wLc fi w ft fe (own.map (·.2))) :=
  (dfp_comp C ok hi hjs hg ht he fun {wi g tt te} a b c d e => pe_lc C.calm C.nd a ok b c d e).df
/-- y = [e for x in xs] -/
abbrev SetC (X : Cx) (i : Nat) (y : Str) (py : Pos) (e : Expr) (spos : Pos) : TE → Prop := fun t => PS X (.Assign [.Name y py] e spos) (tAsg t (gName i))
theorem dfp_set {elt tg iter : Expr} {ifs : List Expr} {scope : Scope} {own : List (Str × Nat)} {pos : Pos} {fi : WL} {js : List Nat} {w : WG} {ft : WT} {fe : WE} {i : Nat} {y : Str} {py spos : Pos} (C : DC W E k X) (ok : BlkOk X.N X.env.scope scope own)
    (hy : X.N[i]? = some y) (hyl : X.env.scope.names.lookup y = some .local) (hsw : swapsWith (.ListComp elt [⟨tg, iter, ifs, 0⟩] scope pos) (some (.Name y py)) spos.line X.env = pure true)
    (hi : DI W G0 H0 E X tg iter fi) (hjs : ∀ j ∈ js, j ∈ own.map (·.2))
    (hg : ∀ (s : Shared) (H : Hp) (a : Addr) (cl : List (Str × Addr)) (fp : List Addr), DG W G0 H0 (bx X scope s H a cl fp) tg js w)
    (ht : ∀ (s : Shared) (H : Hp) (a : Addr) (cl : List (Str × Addr)) (fp : List Addr), DC W E0 k (bx X scope s H a cl fp) → DTs W G0 H0 E0 (bx X scope s H a cl fp) ifs ft)
    (he : ∀ (s : Shared) (H : Hp) (a : Addr) (cl : List (Str × Addr)) (fp : List Addr), DC W E0 k (bx X scope s H a cl fp) → DE W G0 H0 E0 (bx X scope s H a cl fp) elt fe) :
    DFp W G0 H0 E (SetC X i y py (.ListComp elt [⟨tg, iter, ifs, 0⟩] scope pos) spos) (wLc fi w ft fe (own.map (·.2))) :=
  dfp_comp C ok hi hjs hg ht he fun {wi g tt te} a b c d e => ps_setLc C.calm C.nd hy hyl hsw a ok b c d e

/-! ### two walks -/
def lc2In (w1 : WG) (tt1 : WT) (te : WE) (env : Env1) : List D → List D → (List D → Prop) → PX → Prop
  | [], acc, Q, _ => Q acc
  | e :: es, acc, Q, Y => w1 env e (fun env3 => tt1 env3 (fun b => if b = true then te env3 (fun y => acc.length < sizeLine ∧ lc2In w1 tt1 te env es (acc ++ [y]) Q Y) Y else lc2In w1 tt1 te env es acc Q Y) Y)
def lc2Run (w : WG) (tt : WT) (it1 : WL) (w1 : WG) (tt1 : WT) (te : WE) (vs1 : List Nat) (env : Env1) : List D → List D → (List D → Prop) → PX → Prop
  | [], acc, Q, _ => Q acc
  | d :: ds, acc, Q, Y => w env d (fun env2 => tt env2 (fun b => if b = true then it1 env2 (fun es => lc2In w1 tt1 te (wipeE env2 vs1) es acc (fun acc' => lc2Run w tt it1 w1 tt1 te vs1 env ds acc' Q Y) Y) Y else lc2Run w tt it1 w1 tt1 te vs1 env ds acc Q Y) Y)
def wLc2 (it : WL) (w : WG) (tt : WT) (it1 : WL) (w1 : WG) (tt1 : WT) (te : WE) (vs vs1 : List Nat) : WL := fun env Q Y => it env (fun ds => ∀ Y', lc2Run w tt it1 w1 tt1 te vs1 (wipeE env vs) ds [] Q Y') Y
theorem lc2In_mono {w1 : WG} {tt1 : WT} {te : WE} (mw : ∀ env d (Q Q' : Env1 → Prop), (∀ e, Q e → Q' e) → w1 env d Q → w1 env d Q') (mt : Mono tt1) (me : Mono te) {env : Env1} {Y : PX} :
    ∀ (es acc : List D) (Q Q' : List D → Prop), (∀ a, Q a → Q' a) → lc2In w1 tt1 te env es acc Q Y → lc2In w1 tt1 te env es acc Q' Y
  | [], acc, Q, Q', z, h => z _ h
  | e :: es, acc, Q, Q', z, h => mw _ _ _ _ (fun e h => mt _ _ _ _ (fun b => ite_mono (me _ _ _ _ fun y h => ⟨h.1, lc2In_mono mw mt me es _ _ _ z h.2⟩) (lc2In_mono mw mt me es _ _ _ z)) h) h
theorem lc2Run_mono {w : WG} {tt : WT} {it1 : WL} {w1 : WG} {tt1 : WT} {te : WE} {vs1 : List Nat} (mw : ∀ env d (Q Q' : Env1 → Prop), (∀ e, Q e → Q' e) → w env d Q → w env d Q') (mt : Mono tt) (mi : Mono it1)
    (mw1 : ∀ env d (Q Q' : Env1 → Prop), (∀ e, Q e → Q' e) → w1 env d Q → w1 env d Q') (mt1 : Mono tt1) (me : Mono te) {env : Env1} {Y : PX} :
    ∀ (ds acc : List D) (Q Q' : List D → Prop), (∀ a, Q a → Q' a) → lc2Run w tt it1 w1 tt1 te vs1 env ds acc Q Y → lc2Run w tt it1 w1 tt1 te vs1 env ds acc Q' Y
  | [], acc, Q, Q', z, h => z _ h
  | d :: ds, acc, Q, Q', z, h => mw _ _ _ _ (fun e h => mt _ _ _ _ (fun b => ite_mono (mi _ _ _ _ fun es h => lc2In_mono mw1 mt1 me es _ _ _ (fun a h => lc2Run_mono mw mt mi mw1 mt1 me ds _ _ _ z h) h) (lc2Run_mono mw mt mi mw1 mt1 me ds _ _ _ z)) h) h
theorem wipe_in {σ : L2.St} : ∀ {us vs : List Nat}, (∀ u ∈ us, u ∈ vs) → L2.wipe (L2.wipe σ us) vs = L2.wipe σ vs
  | [], _, _ => rfl
  | u :: us, vs, hu => by
    show L2.wipe ((L2.wipe σ us).set u none) vs = _
    rw [wipe_set (hu u List.mem_cons_self)]
    exact wipe_in fun a ha => hu a (List.mem_cons_of_mem _ ha)
theorem keepL {D : Addr} {as : List V} (f : fr W H0 D) (sa : Gst W G H G' H') (ea : H D = some (.lst as)) (na : G D = none) : H' D = some (.lst as) ∧ G' D = none := by
  refine ⟨sa.keep _ _ ea lst_tbl f.1, ?_⟩
  cases q : G' D with
  | none => rfl
  | some o =>
    rcases sa.new _ _ q with z | z
    · rw [na] at z; cases z
    · exact (z.not ea lst_tbl).elim
theorem wipe_get {σ : L2.St} {a : Nat} : ∀ {js : List Nat}, a ∉ js → (L2.wipe σ js)[a]? = σ[a]?
  | [], _ => rfl
  | j :: js, h => by
    show ((L2.wipe σ js).set j none)[a]? = _
    rw [List.getElem?_set_ne (fun z => h (by rw [z]; exact List.mem_cons_self))]
    exact wipe_get fun z => h (List.mem_cons_of_mem _ z)
/-- a comprehension's list grows -/
theorem Gst.grow {D : Addr} {as bs : List V} (f : DL.fr W H D) (st : Gst W G H G' H') (ea : H' D = some (.lst as)) (na : G' D = none) : Gst W G H G' (upd H' D (.lst bs)) := by
  refine ⟨⟨fun b o z => ?_, st.gok.w.chg f.1 ea, st.gok.nm, st.gok.tb⟩, st.le, st.new, fun a o z t n => ?_⟩
  · rw [upd_ne (fun q => by rw [q, na] at z; cases z)]; exact st.gok.le b o z
  · rw [upd_ne (fun q => by subst q; exact f.not z t)]; exact st.keep a o z t n
theorem dfp_comp2 {P : TE → Prop} {elt tg iter tg1 iter1 : Expr} {ifs ifs1 : List Expr} {scope : Scope} {own : List (Str × Nat)} {vs1 : List Nat} {fi f1 : WL} {js js1 : List Nat} {w w1 : WG} {ft ft1 : WT} {fe : WE} (C : DC W E k X) (ok : BlkOk X.N X.env.scope scope own)
    (hv : ∀ i ∈ vs1, i ∈ own.map (·.2)) (hi : DI W G0 H0 E X tg iter fi) (hjs : ∀ j ∈ js, j ∈ own.map (·.2)) (hjs1 : ∀ j ∈ js1, j ∈ vs1)
    (hg : ∀ (s : Shared) (H : Hp) (a : Addr) (cl : List (Str × Addr)) (fp : List Addr), DG W G0 H0 (bx X scope s H a cl fp) tg js w)
    (ht : ∀ (s : Shared) (H : Hp) (a : Addr) (cl : List (Str × Addr)) (fp : List Addr), DC W E0 k (bx X scope s H a cl fp) → DTs W G0 H0 E0 (bx X scope s H a cl fp) ifs ft)
    (hi1 : ∀ (s : Shared) (H : Hp) (a : Addr) (cl : List (Str × Addr)) (fp : List Addr), DC W E0 k (bx X scope s H a cl fp) → DI W G0 H0 E0 (bx X scope s H a cl fp) tg1 iter1 f1)
    (hg1 : ∀ (s : Shared) (H : Hp) (a : Addr) (cl : List (Str × Addr)) (fp : List Addr), DG W G0 H0 (bx X scope s H a cl fp) tg1 js1 w1)
    (ht1 : ∀ (s : Shared) (H : Hp) (a : Addr) (cl : List (Str × Addr)) (fp : List Addr), DC W E0 k (bx X scope s H a cl fp) → DTs W G0 H0 E0 (bx X scope s H a cl fp) ifs1 ft1)
    (he : ∀ (s : Shared) (H : Hp) (a : Addr) (cl : List (Str × Addr)) (fp : List Addr), DC W E0 k (bx X scope s H a cl fp) → DE W G0 H0 E0 (bx X scope s H a cl fp) elt fe)
    (hs : ∀ x, foldedSetIterable iter1 (compEnvC scope [] 0 X.env) x = pure x)
    (hpe : ∀ {wi wi1 : TI} {g g1 : TG} {tt tt1 : TT} {te : TE}, PI X tg iter wi → (∀ (s : Shared) (H : Hp) (a : Addr) (cl : List (Str × Addr)) (fp : List Addr), PG (bx X scope s H a cl fp) tg g) →
      (∀ (s : Shared) (H : Hp) (a : Addr) (cl : List (Str × Addr)) (fp : List Addr), PTs (bx X scope s H a cl fp) ifs tt) → (∀ (s : Shared) (H : Hp) (a : Addr) (cl : List (Str × Addr)) (fp : List Addr), PI (bx X scope s H a cl fp) tg1 iter1 wi1) →
      (∀ (s : Shared) (H : Hp) (a : Addr) (cl : List (Str × Addr)) (fp : List Addr), PG (bx X scope s H a cl fp) tg1 g1) → (∀ (s : Shared) (H : Hp) (a : Addr) (cl : List (Str × Addr)) (fp : List Addr), PTs (bx X scope s H a cl fp) ifs1 tt1) →
      (∀ (s : Shared) (H : Hp) (a : Addr) (cl : List (Str × Addr)) (fp : List Addr), PE (bx X scope s H a cl fp) elt te) →
      (∀ x, foldedSetIterable iter X.env x = pure x) → P (tLc2 wi g tt wi1 g1 tt1 te (own.map (·.2)) vs1)) :
    DFp W G0 H0 E P (wLc2 fi w ft f1 w1 ft1 fe (own.map (·.2)) vs1) := by
  have he0 := he {} (fun _ => none) (0 : Nat) [] [] (C.blk _ _ _ _ _ _)
  have ht0 := ht {} (fun _ => none) (0 : Nat) [] [] (C.blk _ _ _ _ _ _)
  have hg0 := hg {} (fun _ => none) (0 : Nat) [] []
  have ht10 := ht1 {} (fun _ => none) (0 : Nat) [] [] (C.blk _ _ _ _ _ _)
  have hg10 := hg1 {} (fun _ => none) (0 : Nat) [] []
  have hi10 := hi1 {} (fun _ => none) (0 : Nat) [] [] (C.blk _ _ _ _ _ _)
  obtain ⟨mi, ⟨wi, pi, qi⟩, fs⟩ := hi
  refine ⟨fun env Q Q' Y z h => mi _ _ _ _ (fun ds h Y' => lc2Run_mono hg0.mono ht0.mono hi10.mono hg10.mono ht10.mono he0.mono ds _ _ _ z (h Y')) h, _,
    hpe pi (fun s H a cl fp => (hg s H a cl fp).can) (fun s H a cl fp => (ht s H a cl fp (C.blk _ _ _ _ _ _)).can) (fun s H a cl fp => (hi1 s H a cl fp (C.blk _ _ _ _ _ _)).can) (fun s H a cl fp => (hg1 s H a cl fp).can)
      (fun s H a cl fp => (ht1 s H a cl fp (C.blk _ _ _ _ _ _)).can) (fun s H a cl fp => (he s H a cl fp (C.blk _ _ _ _ _ _)).can) fs, fun env σ G H Q r h => ?_⟩
  refine qi env σ G H _ r (mi _ _ _ _ (fun ds h => ?_) h)
  intro J G1 H1 s1 iok D hD
  have gD1 : G1 D = none := s1.gok.nn hD
  have sD : Gst W G1 H1 G1 (upd H1 D (.lst [])) := Gst.hid s1.gok _ hD
  have hn0 : fr W H D := s1.frn hD
  have hrun := h (XOk W G0 H0 E0)
  refine ⟨fun i m H' => ∃ G' acc es, m = ds.length - i ∧ i ≤ ds.length ∧ Gst W G H G' H' ∧ Same G1 G' ∧ H' D = some (.lst acc) ∧ G' D = none ∧ reps W.K G' es acc ∧
      lc2Run w ft f1 w1 ft1 fe vs1 (wipeE env (own.map (·.2))) (ds.drop i) es (QF W G H Q) (XOk W G0 H0 E0), ⟨ds.length - 0, G1, [], [], rfl, Nat.zero_le _, s1.trans sD, Same.refl _, upd_same, gD1, .nil, by rw [List.drop_zero]; exact hrun⟩, ?_⟩
  rintro i m H' ⟨G', acc, es, em, hle, st, sm, eD, gD, ra, hr⟩
  have r' := r.step st
  by_cases hi : i < ds.length
  · have gi : ds[i]? = some ds[i] := List.getElem?_eq_getElem hi
    rw [List.drop_eq_getElem_cons hi] at hr
    refine .inr ⟨iok.go G' H' i _ st.gok sm gi, fun H2 => ∃ G2 acc2 es2, Gst W G H G2 H2 ∧ Same G1 G2 ∧ H2 D = some (.lst acc2) ∧ G2 D = none ∧ reps W.K G2 es2 acc2 ∧
      lc2Run w ft f1 w1 ft1 fe vs1 (wipeE env (own.map (·.2))) (ds.drop (i + 1)) es2 (QF W G H Q) (XOk W G0 H0 E0), fun H2 h => ?_, fun x H2 hy => ?_⟩
    · obtain ⟨G2, acc2, es2, a, b, c, d, e, h⟩ := h
      exact ⟨ds.length - (i + 1), by omega, G2, acc2, es2, rfl, hi, a, b, c, d, e, h⟩
    · obtain ⟨G2, s2, rp⟩ := iok.yld G' H' i _ x H2 st.gok sm gi hy
      obtain ⟨eD2, gD2⟩ := keepL hn0 s2 eD gD
      have rw0 := (r'.step s2).wipe (own.map (·.2))
      refine ⟨_, G2, _, rw0, rp, hg0.mono _ _ _ _ (fun e h => ?_) (hg0.pres _ _ _ hr)⟩
      obtain ⟨hpr, h⟩ := h
      intro σ3 r3 hw3
      have nD : ∀ (a : Nat) ds', e[a]? = some (.ow ds') → σ3[a]? ≠ some (some (.ref D)) := fun a ds' ea z => by
        obtain ⟨eb, nj⟩ := hpr a ds' ea
        obtain ⟨p, xs, k1, k2, _⟩ := (r.wipe (own.map (·.2))).ow a ds' eb
        have := hw3 js fun j hj => hj
        rw [← wipe_get nj, this, wipe_get nj, k1] at z
        cases z
        exact hn0.not k2 lst_tbl
      refine ⟨?_, ?_⟩
      · rw [hw3 _ hjs]; exact wipe_in fun _ h => h
      · refine ⟨e, G2, r3, ht0.mono _ _ _ _ (fun b h => ?_) h⟩
        intro G3 H3 s3
        obtain ⟨eD3, gD3⟩ := keepL hn0 s3 eD2 gD2
        have st3 : Gst W G H G3 H3 := st.trans (s2.trans s3)
        cases b with
        | false =>
          rw [if_neg Bool.false_ne_true] at h ⊢
          exact ⟨G3, acc, es, st3, sm.trans (s2.le.trans s3.le), eD3, gD3, reps_mono (s2.le.trans s3.le) _ _ ra, h⟩
        | true =>
          rw [if_pos rfl] at h ⊢
          have r3' := r3.step s3
          refine ⟨e, G3, r3', hi10.mono _ _ _ _ (fun fs h => ?_) h⟩
          intro J1 G4 H4 s4 iok1
          obtain ⟨eD4, gD4⟩ := keepL hn0 s4 eD3 gD3
          have st4 : Gst W G H G4 H4 := st3.trans s4
          have sm4 : Same G' G4 := (s2.le.trans s3.le).trans s4.le
          refine ⟨fun j m H5 => ∃ G5 acc5 es5, m = fs.length - j ∧ j ≤ fs.length ∧ Gst W G H G5 H5 ∧ Same G4 G5 ∧ H5 D = some (.lst acc5) ∧ G5 D = none ∧ reps W.K G5 es5 acc5 ∧ RelS W G0 H0 e σ3 G5 H5 ∧
            lc2In w1 ft1 fe (wipeE e vs1) (fs.drop j) es5 (fun acc' => lc2Run w ft f1 w1 ft1 fe vs1 (wipeE env (own.map (·.2))) (ds.drop (i + 1)) acc' (QF W G H Q) (XOk W G0 H0 E0)) (XOk W G0 H0 E0),
            ⟨fs.length - 0, G4, acc, es, rfl, Nat.zero_le _, st4, Same.refl _, eD4, gD4, reps_mono sm4 _ _ ra, r3'.step s4, by rw [List.drop_zero]; exact h⟩, ?_⟩
          rintro j m5 H5 ⟨G5, acc5, es5, em5, hle5, st5, sm5, eD5, gD5, ra5, r5, hr5⟩
          by_cases hj : j < fs.length
          · have gj : fs[j]? = some fs[j] := List.getElem?_eq_getElem hj
            rw [List.drop_eq_getElem_cons hj] at hr5
            refine .inr ⟨iok1.go G5 H5 j _ st5.gok sm5 gj, fun H6 => ∃ G6 acc6 es6, Gst W G H G6 H6 ∧ Same G4 G6 ∧ H6 D = some (.lst acc6) ∧ G6 D = none ∧ reps W.K G6 es6 acc6 ∧ RelS W G0 H0 e σ3 G6 H6 ∧
              lc2In w1 ft1 fe (wipeE e vs1) (fs.drop (j + 1)) es6 (fun acc' => lc2Run w ft f1 w1 ft1 fe vs1 (wipeE env (own.map (·.2))) (ds.drop (i + 1)) acc' (QF W G H Q) (XOk W G0 H0 E0)) (XOk W G0 H0 E0), fun H6 h => ?_, fun x5 H6 hy5 => ?_⟩
            · obtain ⟨G6, acc6, es6, a, b, c, d, e1, f, h⟩ := h
              exact ⟨fs.length - (j + 1), by omega, G6, acc6, es6, rfl, hj, a, b, c, d, e1, f, h⟩
            · obtain ⟨G6, s6, rp6⟩ := iok1.yld G5 H5 j _ x5 H6 st5.gok sm5 gj hy5
              obtain ⟨eD6, gD6⟩ := keepL hn0 s6 eD5 gD5
              have r6 := (r5.step s6)
              refine ⟨_, G6, _, r6.wipe vs1, rp6, hg10.mono _ _ _ _ (fun e7 h => ?_) hr5⟩
              intro σ7 r7 hw7
              refine ⟨?_, ?_⟩
              · rw [hw7 _ hjs1]; exact wipe_in fun _ h => h
              · refine ⟨e7, G6, r7, ht10.mono _ _ _ _ (fun b h => ?_) h⟩
                intro G8 H8 s8
                obtain ⟨eD8, gD8⟩ := keepL hn0 s8 eD6 gD6
                have st8 : Gst W G H G8 H8 := st5.trans (s6.trans s8)
                cases b with
                | false =>
                  rw [if_neg Bool.false_ne_true] at h ⊢
                  exact ⟨G8, acc5, es5, st8, sm5.trans (s6.le.trans s8.le), eD8, gD8, reps_mono (s6.le.trans s8.le) _ _ ra5, r6.step s8, h⟩
                | true =>
                  rw [if_pos rfl] at h ⊢
                  refine ⟨e7, G8, r7.step s8, he0.mono _ _ _ _ (fun y h => ?_) h⟩
                  intro v G9 H9 s9 rp9
                  obtain ⟨eD9, gD9⟩ := keepL hn0 s9 eD8 gD8
                  have st9 : Gst W G H G9 H9 := st8.trans s9
                  have sm9 : Same G5 G9 := (s6.le.trans s8.le).trans s9.le
                  have r9 := (r6.step s8).step s9
                  have stg : Gst W G H G9 (upd H9 D (.lst (acc5 ++ [v]))) := Gst.grow hn0 st9 eD9 gD9
                  refine ⟨acc5, eD9, by rw [ra5.length]; exact h.1, G9, acc5 ++ [v], es5 ++ [y], stg, sm5.trans sm9, upd_same, gD9, (reps_mono sm9 _ _ ra5).append (.cons rp9 .nil), ?_, h.2⟩
                  -- the frame's own lists are none of them D
                  refine ⟨r9.w0, ⟨stg.gok, r9.st.le, r9.st.new, fun a o z t n => ?_⟩, r9.len, r9.dt, fun a ds' z => ?_, r9.dj, fun a ks' ds' z => ?_, r9.dd⟩
                  · rw [upd_ne (fun q => by subst q; exact (r.st.fr hn0).not z t)]; exact r9.st.keep a o z t n
                  · obtain ⟨p, xs, k1, k2, k3, k4, k5⟩ := r9.ow a ds' z
                    refine ⟨p, xs, k1, ?_, k3, k4, k5⟩
                    rw [upd_ne (fun q => ?_)]; exact k2
                    subst q
                    exact nD a ds' z k1
                  · obtain ⟨p, kvs, k1, k2, k3, k4, k5, k6⟩ := r9.od a ks' ds' z
                    refine ⟨p, kvs, k1, ?_, k3, k4, k5, k6⟩
                    rw [upd_ne (fun q => by rw [q, eD9] at k2; cases k2)]; exact k2
          · have e0 : fs.drop j = [] := List.drop_eq_nil_of_le (by omega)
            rw [e0] at hr5
            exact .inl ⟨iok1.stop G5 H5 j st5.gok sm5 (by omega), G5, acc5, es5, st5, (sm.trans sm4).trans sm5, eD5, gD5, ra5, hr5⟩
  · have e0 : ds.drop i = [] := List.drop_eq_nil_of_le (by omega)
    rw [e0] at hr
    have hr' : QF W G H Q es := hr
    exact .inl ⟨iok.stop G' H' i st.gok sm (by omega), hr' D acc G' H' st hn0 eD gD ra⟩
theorem df_comp2 {elt tg iter tg1 iter1 : Expr} {ifs ifs1 : List Expr} {scope : Scope} {own : List (Str × Nat)} {vs1 : List Nat} {pos : Pos} {fi f1 : WL} {js js1 : List Nat} {w w1 : WG} {ft ft1 : WT} {fe : WE} (C : DC W E k X) (ok : BlkOk X.N X.env.scope scope own)
    (hv : ∀ i ∈ vs1, i ∈ own.map (·.2)) (hi : DI W G0 H0 E X tg iter fi) (hjs : ∀ j ∈ js, j ∈ own.map (·.2)) (hjs1 : ∀ j ∈ js1, j ∈ vs1)
    (hg : ∀ (s : Shared) (H : Hp) (a : Addr) (cl : List (Str × Addr)) (fp : List Addr), DG W G0 H0 (bx X scope s H a cl fp) tg js w)
    (ht : ∀ (s : Shared) (H : Hp) (a : Addr) (cl : List (Str × Addr)) (fp : List Addr), DC W E0 k (bx X scope s H a cl fp) → DTs W G0 H0 E0 (bx X scope s H a cl fp) ifs ft)
    (hi1 : ∀ (s : Shared) (H : Hp) (a : Addr) (cl : List (Str × Addr)) (fp : List Addr), DC W E0 k (bx X scope s H a cl fp) → DI W G0 H0 E0 (bx X scope s H a cl fp) tg1 iter1 f1)
    (hg1 : ∀ (s : Shared) (H : Hp) (a : Addr) (cl : List (Str × Addr)) (fp : List Addr), DG W G0 H0 (bx X scope s H a cl fp) tg1 js1 w1)
    (ht1 : ∀ (s : Shared) (H : Hp) (a : Addr) (cl : List (Str × Addr)) (fp : List Addr), DC W E0 k (bx X scope s H a cl fp) → DTs W G0 H0 E0 (bx X scope s H a cl fp) ifs1 ft1)
    (he : ∀ (s : Shared) (H : Hp) (a : Addr) (cl : List (Str × Addr)) (fp : List Addr), DC W E0 k (bx X scope s H a cl fp) → DE W G0 H0 E0 (bx X scope s H a cl fp) elt fe) (hs : ∀ env x, foldedSetIterable iter1 env x = pure x := by intro _ _; rfl) :
    DF W G0 H0 E X (.ListComp elt [⟨tg, iter, ifs, 0⟩, ⟨tg1, iter1, ifs1, 0⟩] scope pos) (wLc2 fi w ft f1 w1 ft1 fe (own.map (·.2)) vs1) :=
  (dfp_comp2 C ok hv hi hjs hjs1 hg ht hi1 hg1 ht1 he (hs _) fun {wi wi1 g g1 tt tt1 te} a b c d e f h hh => pe_lc2 C.calm C.nd a ok hv b c d e f h hh hs).df
theorem dfp_set2 {elt tg iter tg1 iter1 : Expr} {ifs ifs1 : List Expr} {scope : Scope} {own : List (Str × Nat)} {vs1 : List Nat} {pos : Pos} {fi f1 : WL} {js js1 : List Nat} {w w1 : WG} {ft ft1 : WT} {fe : WE} {i : Nat} {y : Str} {py spos : Pos} (C : DC W E k X) (ok : BlkOk X.N X.env.scope scope own)
    (hy : X.N[i]? = some y) (hyl : X.env.scope.names.lookup y = some .local) (hsw : swapsWith (.ListComp elt [⟨tg, iter, ifs, 0⟩, ⟨tg1, iter1, ifs1, 0⟩] scope pos) (some (.Name y py)) spos.line X.env = pure true)
    (hv : ∀ i ∈ vs1, i ∈ own.map (·.2)) (hi : DI W G0 H0 E X tg iter fi) (hjs : ∀ j ∈ js, j ∈ own.map (·.2)) (hjs1 : ∀ j ∈ js1, j ∈ vs1)
    (hg : ∀ (s : Shared) (H : Hp) (a : Addr) (cl : List (Str × Addr)) (fp : List Addr), DG W G0 H0 (bx X scope s H a cl fp) tg js w)
    (ht : ∀ (s : Shared) (H : Hp) (a : Addr) (cl : List (Str × Addr)) (fp : List Addr), DC W E0 k (bx X scope s H a cl fp) → DTs W G0 H0 E0 (bx X scope s H a cl fp) ifs ft)
    (hi1 : ∀ (s : Shared) (H : Hp) (a : Addr) (cl : List (Str × Addr)) (fp : List Addr), DC W E0 k (bx X scope s H a cl fp) → DI W G0 H0 E0 (bx X scope s H a cl fp) tg1 iter1 f1)
    (hg1 : ∀ (s : Shared) (H : Hp) (a : Addr) (cl : List (Str × Addr)) (fp : List Addr), DG W G0 H0 (bx X scope s H a cl fp) tg1 js1 w1)
    (ht1 : ∀ (s : Shared) (H : Hp) (a : Addr) (cl : List (Str × Addr)) (fp : List Addr), DC W E0 k (bx X scope s H a cl fp) → DTs W G0 H0 E0 (bx X scope s H a cl fp) ifs1 ft1)
    (he : ∀ (s : Shared) (H : Hp) (a : Addr) (cl : List (Str × Addr)) (fp : List Addr), DC W E0 k (bx X scope s H a cl fp) → DE W G0 H0 E0 (bx X scope s H a cl fp) elt fe) (hs : ∀ env x, foldedSetIterable iter1 env x = pure x := by intro _ _; rfl) :
    DFp W G0 H0 E (SetC X i y py (.ListComp elt [⟨tg, iter, ifs, 0⟩, ⟨tg1, iter1, ifs1, 0⟩] scope pos) spos) (wLc2 fi w ft f1 w1 ft1 fe (own.map (·.2)) vs1) :=
  dfp_comp2 C ok hv hi hjs hjs1 hg ht hi1 hg1 ht1 he (hs _) fun {wi wi1 g g1 tt tt1 te} a b c d e f h hh => ps_setLc2 C.calm C.nd hy hyl hsw a ok hv b c d e f h hh hs
end
end DL
/-! lambdas, exceptions with fields, what a suite asks of the exception -/
namespace DL
open PySem PySem.Spec PyProof.Rows L2
section
variable {W : Wd} {G0 H0 G G' H H' : Hp} {E : XK} {X : Cx} {k n : Nat} {env : Env1} {σ : L2.St}

/-! ### list.count of flat things -/
def rCntF (K : PySem.W.Frag) : V → List V → Hp → VK → Prop := fun x xs H Q => ∃ (p : Addr) (ys : List V) (y : V), x = .ref p ∧ xs = [y] ∧ SqL K H p ys ∧ flatV y = true ∧ ys.all flatV = true ∧ Q (.int (ys.countP fun z => eqV z y : Nat)) H
theorem count_eqU {x : V} : ∀ {xs : List V} {us : List Value}, Vals xs us → xs.all flatV = true → us.countP (eqU x) = xs.countP fun y => eqV y x
  | _, _, .nil, _ => rfl
  | y :: xs, u :: us, .cons r t, f => by
    have f' : flatV y = true ∧ xs.all flatV = true := by simpa using f
    rw [List.countP_cons, List.countP_cons, eqU_of r f'.1, count_eqU t f'.2]
theorem mt_countF : MtR X "list.count" (rCntF X.K) := by
  intro pins s σ H x xs v us Q I rx rxs h
  obtain ⟨p, ys, y, rfl, rfl, hs, fy, fys, q⟩ := h
  cases rx
  obtain ⟨u, rfl, ru⟩ := rxs.one
  obtain ⟨its, rv, ⟨⟨cls, dd, data, sl⟩, n, ho, hc, hdn, hd⟩, hlen⟩ := I.list hs
  simp only at hc hd
  subst hc hd
  refine call_meets PySem.F.slot_list_count ⟨_, ho, rfl⟩ PySem.F.entry_list_count (PySem.F.args_list_count_2 _ _)
    (SeqAt.list_countAt p its.toArray n dd sl u (eqU y)) ⟨ho, fun w hw => mem_eqAt ru fy rv fys w (by simpa using hw), ?_⟩
  have ec := count_eqU (x := y) rv fys
  refine ⟨.int (ys.countP fun z => eqV z y : Nat), H, I.tok _, ⟨s.toks, ?_⟩, q⟩
  show Value.int ((its.toArray.toList.countP (eqU y) : Nat) : Int) s.toks = _
  rw [← ec]
def gCountL : D → List D → PD → Prop := fun o ds Q => ∃ (xs : List D) (d : D), o = .lst xs ∧ ds = [d] ∧ flatD d = true ∧ xs.all flatD = true ∧ Q (.int (xs.countP fun z => eqF z d : Nat))
theorem count_rep {K : PySem.W.Frag} {d : D} {v : V} (fd : flatD d = true) (hv : rep K G d v) : ∀ {ds : List D} {xs : List V}, ds.all flatD = true → reps K G ds xs → (xs.countP fun z => eqV z v) = ds.countP fun y => eqF y d
  | [], xs, _, h => by rw [h.nil_eq]; rfl
  | d' :: ds, xs, f, h => by
    obtain ⟨x, r, rfl, h1, h2⟩ := h.uncons
    rw [List.all_cons, Bool.and_eq_true] at f
    rw [List.countP_cons, List.countP_cons, eqF_rep f.1 fd h1 hv, count_rep fd hv f.2 h2]
theorem lift_countL : LiftM W (rCntF W.K) isLst gCountL :=
  ⟨fun o ds Q Q' z ⟨xs, d, a, b, c, e, q⟩ => ⟨xs, d, a, b, c, e, z _ q⟩, fun G H x vs o ds Q g rx rp ⟨xs, d, a, b, c, e, q⟩ => by
    subst a b
    obtain ⟨v, rfl, r⟩ := reps1 rp
    obtain ⟨p, ys, rfl, hs, r1⟩ := rep_lst rx
    refine ⟨p, ys, v, rfl, rfl, SqL.at (g.le _ _ hs), flat_rep c r, flats_rep e r1, ?_⟩
    rw [count_rep c r e r1]
    exact q.here g rep_int'⟩

/-! ### raise X(e), X an own class whose __init__ keeps one field -/
def spI (C : Addr) (f : Str) : Sp := fun vs H Q _ => ∃ a v, vs = [.ref a, v] ∧ H a = some (exo a C none) ∧ ∀ dx, H dx = none → dx ≠ a → Q .non (upd (upd H dx (exd dx [(f, v)])) a (exo a C (some dx)))
theorem init_ok {P : Program} {w : World} {K : PySem.W.Frag} {mg : Str → Option Value} {base : Heap} {qual : Str} {st : Stmt} {fI C : Addr} {fd : FuncData} {f : Str} {q1 q2 q3 q4 : Pos} (F : Fun K "__init__" qual st fI fd) (sc : FnScope ["self", f] ["self", f] (defScope st))
    (hb : defBody st = [.Assign [.Attribute (.Name "self" q1) f q2] (.Name f q3) q4]) (T : OexC K C) (hno : PySem.W.findIn K (.ref C) f = some none) (hv0 : Vis (defScope st) "self") (hv1 : Vis (defScope st) f) (hd : (f == ("__debug__" : Str)) = false) (hcd : (f == ("__classdict__" : Str)) = false) :
    FnOk P w K mg base (L2N.CX P w) 1 fI fd ["self", f] (spI C f) := by
  refine okN F sc (fun vs H Q E h => by obtain ⟨a, v, rfl, _⟩ := h; rfl) (fun cdv A outer s H vs Q E hr h => ?_)
  obtain ⟨a, v, rfl, ha, q⟩ := h
  rw [hb]
  refine ⟨_, pss_one (ps_ost (pe_var (i := 0) rfl hv0) (pe_var (i := 1) rfl hv1 hd hcd)), ?_⟩
  exact ⟨v, rfl, .ref a, rfl, a, C, rfl, T, hno, .inl ⟨ha, fun dx hdx ne => q dx hdx ne⟩⟩
structure ExI (W : Wd) (P : Program) (w : World) (mg : Str → Option Value) (base : Heap) (x : Str) (nm : String) (f : Str) : Prop where
  g : mg x = some (.ref (W.cls nm))
  T : OexC W.K (W.cls nm)
  ini : ∃ fI fd, PySem.W.findIn W.K (.ref (W.cls nm)) "__init__" = some (some (.ref fI)) ∧ PySem.W.typeIn W.K (.ref fI) = some (.type "function") ∧ Binds W.K fd ["self", f] [] ∧ FnOk P w W.K mg base (L2N.CX P w) 1 fI fd ["self", f] (spI (W.cls nm) f)
def wRaise1 (nm : String) (f : Str) (fe : WE) : WS := fun env _ Y => fe env (fun d => Y ⟨nm, [f], [d]⟩) Y
theorem ds_raise1 {x f : Str} {nm : String} {e : Expr} {fe : WE} {p pos pos2 : Pos} (C : DC W E k X) (hk : 2 ≤ k) (T : ExI W X.prog X.w X.mg X.base x nm f) (hg : Gl X x) (he : DE W G0 H0 E X e fe) (hdb : (x == ("__debug__" : Str)) = false := by decide)
    (hs : starEach [e] X.env = (false, eval e X.env) :: starEach [] X.env := by rfl) (hpl : (backTo pos (starEach [] X.env)).any (·.1) = false := by rfl) :
    DS W G0 H0 E X (.Raise (some (.Call (.Name x p) [e] [] pos)) none pos2) (wRaise1 nm f fe) := by
  obtain ⟨m, t, pt, q⟩ := he
  obtain ⟨fI, fd, i1, i2, bi, F⟩ := T.ini
  have hK := C.hK
  rw [← hK] at i1 i2 bi F
  refine ⟨fun env D D' Y z w => w, _, L2N.ps_raise C.calm C.tk (oexN (by rw [hK]; exact T.T) i1 i2 F (C.room.mono hk) bi (fun _ _ _ _ _ _ _ ⟨_, _, _, _, _, _, _, _, _, _, _, _, no⟩ => no.elim) hg T.g (pa_cons pt pa_nil hs) hdb hs hpl), fun env σ G H Dv r w => ?_⟩
  refine q env σ G H _ r (m _ _ _ _ (fun d w => ?_) w)
  intro v G1 H1 s1 rp
  have r1 := r.step s1
  refine ⟨(by show 1 ≤ 1000; decide), fun a ha => ?_⟩
  refine ⟨a, v, rfl, upd_same, fun dx hdx ne => ⟨rfl, dx, [(f, v)], upd_same, ?_, ?_, ?_⟩⟩
  · rw [upd_ne ne, upd_same]
  · rw [upd_ne ne] at hdx; exact hdx
  · have hdx' : H1 dx = none := by rw [upd_ne ne] at hdx; exact hdx
    have e1 : upd (del (upd (upd (upd H1 a (exo a (W.cls nm) none)) dx (exd dx [(f, v)])) a (exo a (W.cls nm) (some dx))) a) dx (.xd [(f, v)]) = upd H1 dx (.xd [(f, v)]) := by
      funext b
      by_cases hb : b = dx
      · subst hb; rw [upd_same, upd_same]
      · rw [upd_ne hb, upd_ne hb]
        by_cases hba : b = a
        · subst hba; rw [del_same, ha]
        · rw [del_ne hba, upd_ne hba, upd_ne hb, upd_ne hba]
    rw [e1]
    have s2 : Gst W G1 H1 G1 (upd H1 dx (.xd [(f, v)])) := Gst.hid r1.gok _ hdx'
    exact w _ _ G1 _ (r1.st.trans s2) ⟨rfl, dx, [(f, v)], rfl, upd_same, rfl, .cons rp .nil⟩

/-! ### in a suite: what the exception is -/
/-- what a class must say so that isinstance asks its instances rightly -/
structure ExA (K : PySem.W.Frag) (D : Addr) : Prop where
  cl : (PySem.W.clsIn K D).isSome = true
  hg : PySem.W.findIn K (.ref D) "__getattribute__" = some (some (.builtin "BaseException.__getattribute__"))
  hk : PySem.W.findIn K (.ref D) "__getattr__" = some none
  hs : PySem.W.subIn K (.ref D) (.type "BaseException") = some true
  hd : PySem.W.hasDictIn K D = true
  ha : PySem.W.findIn K (.ref D) "__class__" = some (some (.builtin "object.__class__"))
  hn : PySem.W.specialIn K (.builtin "object.__class__") "__get__" = some (some (.builtin "getset_descriptor.__get__"))
  ht : PySem.W.takesIn K (.builtin "object.__class__") = some true
  hm : PySem.W.mroIn K D (.type "object") = some true
/-- isinstance(e, c), e the exception of the suite -/
def rIsX (K : PySem.W.Frag) (D a : Addr) (dx : Option Addr) : List V → Hp → VK → Prop := fun xs H Q => ∃ (c : V) (cv : Value) (b : Bool), xs = [.ref a, c] ∧ (∀ u, RelV c u → u = cv) ∧ (∀ d, dx = some d → ∃ fs, H d = some (.xd fs)) ∧ PySem.W.kitOne K (.ref D) cv = some b ∧ Q (.bl b) H
theorem call_isX {a D : Addr} {oe : Obj} {dx : Option Addr} {pn : List (Addr × Obj)} (C : ExA X.K D) (hz : Zc (.ref D) dx oe) (hf : ∃ vs, oe.data = .fields vs) : CallR (X.suite a ((a, oe) :: pn)) (.builtin "isinstance") (rIsX X.K D a dx) := by
  intro pins s σ H xs us Q I r h
  obtain ⟨c, cv, b, rfl, hcv, hdx, e, q⟩ := h
  cases r with
  | cons rx rr =>
    cases rr with
    | cons rt rr =>
      cases rr
      cases rx
      have ec := hcv _ rt
      subst ec
      obtain ⟨hget, _⟩ := I.pin (a, oe) (List.mem_append.mpr (.inl List.mem_cons_self))
      obtain ⟨vs, hv⟩ := hf
      have J : ∃ od, PySem.W.InstAt s.heap a oe D od := by
        obtain ⟨oc, od, oda, osl⟩ := oe
        obtain ⟨h1, h2⟩ := hz
        dsimp only at h1 h2 hv
        subst h1 h2 hv
        cases od with
        | none => exact ⟨none, hget, rfl, rfl, trivial⟩
        | some d =>
          obtain ⟨fs, hd⟩ := hdx d rfl
          obtain ⟨mA, hns, _⟩ := (show ObjOk X.prog X.w H s.heap d (.xd fs) from I.hok d _ hd)
          obtain ⟨ob, ho, _⟩ := lookIn_ns hns
          exact ⟨some ob, hget, rfl, rfl, ho⟩
      obtain ⟨od, J⟩ := J
      exact PySem.W.kia_one (PySem.W.kitx_exc C.cl C.hg C.hk C.hs C.ha C.hn C.ht C.hm) I.kIn J e (fun z => nomatch z) fun tk => ⟨.bl b, H, I.kept (t' := tk) fun _ _ z => z, rfl, q⟩
/-- what is known of the exception that a suite holds: ex at a, of the class cls, its dict dx -/
structure Held (W : Wd) (G0 H0 : Hp) (ex : Ex) (cls : Value) (dx : Option Addr) : Prop where
  e : ∀ G H, Gst W G0 H0 G H → exRep W G ex cls dx H
theorem exRep.step {ex : Ex} {cls : Value} {dx : Option Addr} (h : exRep W G ex cls dx H) (s : Gst W G H G' H') (w : WOk W H) : exRep W G' ex cls dx H' := by
  obtain ⟨h1, h2⟩ := h
  refine ⟨h1, ?_⟩
  split at h2
  · exact h2
  · obtain ⟨d, vs, a, b, c, e⟩ := h2
    refine ⟨d, vs, a, s.keep _ _ b (fun ps z => by cases z) (fun m => ?_), c, reps_mono s.le _ _ e⟩
    rcases m with ⟨h, eh, q⟩ | ⟨p, hp, q⟩
    · obtain ⟨_, cells, i, x, y, z, g1, g2, _⟩ := w.hand h eh
      rcases q with q | q
      · rw [q, g1] at b; cases b
      · rw [q, g2] at b; cases b
    · obtain ⟨ps, g1, _⟩ := w.tabs p hp
      rw [q, g1] at b; cases b
def wB (b : Bool) : WE := fun _ Q _ => Q (.bl b)
/-- isinstance(e, C) -/
theorem de_isE {e : Expr} {es : List Expr} {a D : Addr} {oe : Obj} {pn : List (Addr × Obj)} {ex : Ex} {cls : Value} {dx : Option Addr} {c : V} {cv : Value} {b : Bool} {i : Nat}
    (hp : ∀ t, PA (X.suite a ((a, oe) :: pn)) es t → PE (X.suite a ((a, oe) :: pn)) e (tCB (rIsX X.K D a dx) t)) (hes : PA (X.suite a ((a, oe) :: pn)) es (tCons (tVar i) (tCons (tC c) tNil)))
    (hc : ∀ u, RelV c u → u = cv) (hk : PySem.W.kitOne X.K (.ref D) cv = some b) (hh : Held W G0 H0 ex cls dx) :
    DE W G0 H0 E0 (X.suite a ((a, oe) :: pn)) e (fun env Q Y => env[i]? = some (.dt (.vr (.ref a))) ∧ Q (.bl b)) := by
  refine ⟨fun env Q Q' Y z ⟨h, w⟩ => ⟨h, z _ w⟩, _, hp _ hes, fun env σ G H Q r ⟨h, w⟩ => ?_⟩
  obtain ⟨v, h1, h2⟩ := r.dt i _ h
  have e1 := rep_vr h2
  subst e1
  refine ⟨.ref a, h1, c, cv, b, rfl, hc, fun d ed => ?_, hk, w _ G H (.refl r.gok) rep_bl'⟩
  obtain ⟨_, h3⟩ := hh.e G H r.st
  split at h3
  · rw [h3] at ed; cases ed
  · obtain ⟨d', vs, k1, k2, _⟩ := h3
    rw [k1] at ed; cases ed
    exact ⟨vs, k2⟩
/-- e.f -/
theorem de_exF {e : Expr} {a C : Addr} {oe : Obj} {pn : List (Addr × Obj)} {ex : Ex} {cls : Value} {dx : Option Addr} {f : Str} {d : D} {i : Nat} (hp : PE (X.suite a ((a, oe) :: pn)) e (tXf a cls dx C f (tVar i))) (hC : cls = .ref C)
    (hh : Held W G0 H0 ex cls dx) (hk : ex.ks = [f]) (hd : ex.ds = [d]) : DE W G0 H0 E0 (X.suite a ((a, oe) :: pn)) e (fun env Q Y => env[i]? = some (.dt (.vr (.ref a))) ∧ Q d) := by
  refine ⟨fun env Q Q' Y z ⟨h, w⟩ => ⟨h, z _ w⟩, _, hp, fun env σ G H Q r ⟨h, w⟩ => ?_⟩
  obtain ⟨v, h1, h2⟩ := r.dt i _ h
  have e1 := rep_vr h2
  subst e1
  obtain ⟨_, h3⟩ := hh.e G H r.st
  rw [hk] at h3
  obtain ⟨d', vs, k1, k2, k3, k4⟩ := h3
  rw [hd] at k4
  obtain ⟨y, e2, ry⟩ := reps1 k4
  have ev : vs = [(f, y)] := by
    cases vs with
    | nil => cases e2
    | cons p r =>
      have e3 : r = [] := by
        have := congrArg List.length e2
        simpa using this
      subst e3
      simp only [List.map_cons, List.map_nil, List.cons.injEq, and_true] at k3 e2
      rw [← k3, ← e2]
  subst ev
  exact ⟨.ref a, h1, rfl, hC, d', _, y, k1, k2, by simp [List.lookup], w y G H (.refl r.gok) ry⟩

/-! ### x(lambda: body) -/
abbrev SpecT := (PD → PX → Prop) → PD → Prop
def ttD (W : Wd) (S : SpecT) : (XK → Hp → VK → Prop) → Hp → VK → Prop := fun tl H Q => ∃ (G : Hp) (th : PD → PX → Prop), GOk W G H ∧ (∀ Q Q' Y Y', (∀ d, Q d → Q' d) → (∀ ex, Y ex → Y' ex) → th Q Y → th Q' Y') ∧ (∀ G' H' E Q', Gst W G H G' H' → th (QE W G' H' Q') (XOk W G' H' E) → tl E H' Q') ∧ S th (QE W G H Q)
def hideOw (env : Env1) : Env1 := env.map fun s => match s with | .ow _ => .non | .od _ _ => .non | s => s
theorem RelS.hide (r : RelS W G0 H0 env σ G H) : RelS W G H (hideOw env) σ G H where
  w0 := r.wok
  st := .refl r.gok
  len := by unfold hideOw; rw [List.length_map]; exact r.len
  dt := fun i d e => by
    unfold hideOw at e
    rw [List.getElem?_map] at e
    obtain ⟨s, e1, e2⟩ := Option.map_eq_some_iff.mp e
    cases s with
    | non => cases e2
    | dt d' => cases e2; exact r.dt i d e1
    | ow ds => cases e2
    | od ks ds => cases e2
  ow := fun i d e => by
    unfold hideOw at e
    rw [List.getElem?_map] at e
    obtain ⟨s, e1, e2⟩ := Option.map_eq_some_iff.mp e
    cases s <;> cases e2
  dj := fun i j ds es p n e => by
    unfold hideOw at e
    rw [List.getElem?_map] at e
    obtain ⟨s, e1, e2⟩ := Option.map_eq_some_iff.mp e
    cases s <;> cases e2
  od := fun i ks d e => by
    unfold hideOw at e
    rw [List.getElem?_map] at e
    obtain ⟨s, e1, e2⟩ := Option.map_eq_some_iff.mp e
    cases s <;> cases e2
  dd := fun i j ks ds ks' es p n e => by
    unfold hideOw at e
    rw [List.getElem?_map] at e
    obtain ⟨s, e1, e2⟩ := Option.map_eq_some_iff.mp e
    cases s <;> cases e2
def wLam (S : SpecT) (f : WE) : WE := fun env Q _ => S (fun Qt Xt => f (hideOw env) Qt Xt) Q
def tCanL (W : Wd) (f : WE) : XK → TE := fun E σ H Q => ∃ G0 H0 env G, RelS W G0 H0 env σ G H ∧ f env (QE W G H Q) (XOk W G0 H0 E)
theorem DC.lam (C : DC W E (k + 2) X) {A : Around} {outer : List Env} {s : Shared} {H : Hp} {E' : XK} {scope : Scope} {f c' : Addr} (hr : Room k (A.deeper (LamX.lamEnv X scope s.heap.objs.size f c'))) : DC W E' k (lamN X A outer s H E' scope f c') :=
  ⟨C.hK, rfl, C.nd, L2N.takes_of rfl rfl rfl rfl, hr, passes_of rfl⟩
/-- growing in what is asked of exceptions, too -/
def MonoX {α : Type} (f : Env1 → (α → Prop) → PX → Prop) : Prop := ∀ env Q X X', (∀ e, X e → X' e) → f env Q X → f env Q X'
theorem de_lam {S : SpecT} {e body : Expr} {scope : Scope} {f : WE} (C : DC W E (k + 2) X) (mf : Mono f) (mx : MonoX f) (mS : ∀ th : PD → PX → Prop, (∀ Q Q' Y Y', (∀ d, Q d → Q' d) → (∀ ex, Y ex → Y' ex) → th Q Y → th Q' Y') → ∀ Q Q', (∀ d, Q d → Q' d) → S th Q → S th Q')
    (hp : ∀ t : XK → TE, (∀ (A : Around) (outer : List Env) (s : Shared) (H : Hp) (E : XK) (f c' : Addr), Room k (A.deeper (LamX.lamEnv X scope s.heap.objs.size f c')) → PE (lamN X A outer s H E scope f c') body (t E)) → PE X e (LamX.tLam W.T (ttD W S) t))
    (hb : ∀ (G0 H0 : Hp) (A : Around) (outer : List Env) (s : Shared) (H : Hp) (E : XK) (f' c' : Addr), DC W E k (lamN X A outer s H E scope f' c') → DE W G0 H0 E (lamN X A outer s H E scope f' c') body f) : DE W G0 H0 E X e (wLam S f) := by
  refine ⟨fun env Q Q' Y z w => mS _ (fun Q Q' Y Y' zq zy h => mx _ _ _ _ zy (mf _ _ _ _ zq h)) _ _ z w, _, hp (tCanL W f) fun A outer s H E f' c' hr => ⟨fun pins s' σ H' Q I ⟨G0', H0', env, G, r, w⟩ => ((hb G0' H0' A outer s H E f' c' (C.lam hr)).can).run pins s' σ H' Q I ⟨env, G, r, w⟩⟩, fun env σ G H Q r w => ?_⟩
  refine ⟨r.wok.tabs, fun H1 eN T1 => ?_⟩
  have s1 : Gst W G H G H1 := by
    refine ⟨⟨fun a o e => eN a o (r.gok.le a o e) fun ps z => r.gok.tb a ps (by rw [e, z]), ⟨fun h q => ?_, T1⟩, r.gok.nm, r.gok.tb⟩, Same.refl _, fun a o e => .inl e, fun a o e n _ => eN a o e n⟩
    obtain ⟨n, cells, i, x, y, z, g1, g2, g3⟩ := r.wok.hand h q
    exact ⟨n, cells, i, x, y, z, eN _ _ g1 lst_tbl, eN _ _ g2 lst_tbl, g3⟩
  have r1 := r.step s1
  refine ⟨G, fun Qt Xt => f (hideOw env) Qt Xt, s1.gok, fun Q Q' Y Y' zq zy h => mx _ _ _ _ zy (mf _ _ _ _ zq h), fun G' H' E' Q' s2 w2 => ?_, mS _ (fun Q Q' Y Y' zq zy h => mx _ _ _ _ zy (mf _ _ _ _ zq h)) _ _ (fun d h => QE.step s1 h) w⟩
  exact ⟨G', H', hideOw env, G', (r1.step s2).hide, w2⟩
end
end DL
/-! the law's own hand: draws -/
namespace DL
open PySem PySem.Spec PyProof.Rows L2
section
variable {W : Wd} {G0 H0 G G' H H' : Hp} {E : XK} {X : Cx} {k n : Nat} {env : Env1} {σ : L2.St}
/-- the hand, as a thing that is handed on -/
def hdD (W : Wd) : D := match W.hand with | some h => .vr (.ref h.1) | none => .non
/-- the hand's state -/
def HdIs (H : Hp) (ha hc : Addr) (cells : List Int) (i x y z : Int) : Prop := H ha = some (.lst [.ref hc, .int i, .int x, .int y, .int z]) ∧ H hc = some (.lst (cells.map V.int)) ∧ 0 ≤ i
def HdS (H0 : Hp) (ha hc : Addr) (H : Hp) : Prop := (∃ cells i x y z, HdIs H ha hc cells i x y z) ∧ ∀ a, a ≠ ha → H a = H0 a
theorem HdS.gst {ha hc : Addr} (g : GOk W G H) (e : W.hand = some (ha, hc)) (h : HdS H ha hc H') : Gst W G H G H' := by
  obtain ⟨⟨cells, i, x, y, z, h1, h2, h3⟩, h4⟩ := h
  have hm : W.mem ha := .inl ⟨_, e, .inl rfl⟩
  obtain ⟨hne, cells0, i0, x0, y0, z0, g1, g2, g3⟩ := g.w.hand _ e
  refine ⟨⟨fun a o q => ?_, ⟨fun h q => ?_, fun p hp => ?_⟩, g.nm, g.tb⟩, Same.refl _, fun _ _ q => .inl q, fun a o q _ m => ?_⟩
  · have : a ≠ ha := fun q2 => by rw [q2, g.nm ha hm] at q; cases q
    rw [h4 a this]; exact g.le a o q
  · rw [e] at q; cases q
    exact ⟨hne, cells, i, x, y, z, h1, h2, h3⟩
  · obtain ⟨ps, q1, q2⟩ := g.w.tabs p hp
    have : p.1 ≠ ha := fun q3 => by rw [q3, g1] at q1; cases q1
    refine ⟨ps, by rw [h4 _ this]; exact q1, q2.1, fun pos cv hc => ?_⟩
    obtain ⟨c, e1, e2⟩ := q2.2 pos cv hc
    have n2 : c ≠ ha := fun q3 => by rw [q3, g1] at e2; cases e2
    exact ⟨c, e1, by rw [h4 _ n2]; exact e2⟩
  · have : a ≠ ha := fun q2 => m (by rw [q2]; exact hm)
    rw [h4 a this]; exact q
/-- hand[j] -/
def tHd (K : PySem.W.Frag) (j : Int) : TE := tOp (rIxL K) (tVar 0) (tC (.int j))
theorem tHd_int {K : PySem.W.Frag} {ha hc : Addr} {cells : List Int} {i x y z v : Int} {j : Int} {Q : VK} (h0 : σ[0]? = some (some (.ref ha))) (h : HdIs H ha hc cells i x y z) (hj : atI [V.ref hc, .int i, .int x, .int y, .int z] j = some (.int v)) (q : Q (.int v) H) : tHd K j σ H Q :=
  ⟨.ref ha, h0, ha, _, j, .int v, rfl, rfl, SqL.at h.1, hj, q⟩
/-- hand[j] = v -/
def tHs (j : Int) (te : TE) : TS := tAsg te (gSub (tVar 0) (tC (.int j)) rSetL)
theorem tHs_int {ha : Addr} {xs : List V} {v : V} {j : Int} {m : Nat} {Dv : Ends} (h0 : σ[0]? = some (some (.ref ha))) (h : H ha = some (.lst xs)) (hj : ixN xs.length j = some m) (q : Dv.nx σ (upd H ha (.lst (xs.set m v)))) : gSub (tVar 0) (tC (.int j)) rSetL v σ H Dv.nx :=
  ⟨.ref ha, h0, ha, xs, j, m, rfl, rfl, h, hj, q⟩
def tMul (a : TE) (b : Int) : TE := tOp (rI CMul fun i j => .int (i * j)) a (tC (.int b))
def tMod (a b : TE) : TE := tOp (rI (fun _ j => j ≠ 0) fun i j => .int (i.fmod j)) a b
def tDiv (a b : TE) : TE := tOp (rI CDivN fun i j => .int (i.fdiv j)) a b
def tInt (a : TE) : TE := tCB (fun xs H Q => (∃ i, xs = [.int i] ∧ Q (.int i) H) ∨ ∃ k, xs = [.bl k] ∧ Q (.int (if k then 1 else 0)) H) (tCons a tNil)
def tAddI (a b : TE) : TE := tOp (rI0 fun i j => .int (i + j)) a b
def tK (i : Int) : TE := tC (.int i)
def tTake (K : PySem.W.Frag) (b c d md : Int) : TS :=
  tIfS (tAnd (tTest (tOp rEq (tHd K 2) (tK 0))) (tTest (tOp (rI0 fun i j => .bl (decide (i < j))) (tHd K 1) (tCB (fun xs H Q => ∃ p ys, xs = [.ref p] ∧ (SqL K H p ys ∨ SqT K H p ys) ∧ Q (.int ys.length) H) (tCons (tHd K 0) tNil)))))
    (tSeq (tAsg (tOp (rIxL K) (tHd K 0) (tHd K 1)) (gName 2)) (tSeq (tHs 1 (tAddI (tHd K 1) (tK 1))) (tSeq (tHs 3 (tMod (tInt (tAddI (tAddI (tMul (tHd K 3) b) (tMul (tVar 2) c)) (tK d))) (tK md)))
      (tHs 2 (tIf (tTest (tOp (rI0 fun i j => .bl (decide (j ≤ i))) (tVar 2) (tOp (rI CPow fun i j => .int (i ^ j.toNat)) (tK 10) (tK 18)))) (tVar 2) (tK 0))))))
    tNext
theorem HdS.put {ha hc : Addr} {cells : List Int} {i x y z i' x' y' z' : Int} {vs : List V} (hne : ha ≠ hc) (h : HdIs H ha hc cells i x y z) (h2 : ∀ a, a ≠ ha → H a = H0 a) (h' : 0 ≤ i') (e : vs = [.ref hc, .int i', .int x', .int y', .int z']) :
    HdIs (upd H ha (.lst vs)) ha hc cells i' x' y' z' ∧ ∀ a, a ≠ ha → (upd H ha (.lst vs)) a = H0 a :=
  ⟨⟨by rw [upd_same, e], by rw [upd_ne hne.symm]; exact h.2.1, h'⟩, fun a n => by rw [upd_ne n]; exact h2 a n⟩
theorem take_ok {K : PySem.W.Frag} {b c d md : Int} {ha hc : Addr} {m : Int} {s2 s3 s4 : Option V} {Dv : Ends} (hne : ha ≠ hc) (hb : -(2 ^ 64) < b ∧ b < 2 ^ 64) (hcc : -(2 ^ 64) < c ∧ c < 2 ^ 64) (hm : md ≠ 0) (h : HdS H0 ha hc H)
    (q : ∀ s2 H', HdS H0 ha hc H' → Dv.nx [some (.ref ha), some (.int m), s2, s3, s4] H') : tTake K b c d md Dv [some (.ref ha), some (.int m), s2, s3, s4] H := by
  obtain ⟨⟨cells, i, x, y, z, h1⟩, h2⟩ := h
  refine tHd_int rfl h1 rfl ⟨rfl, _, rfl, ?_⟩
  refine ite2 (fun e => ?_) (fun e => ?_)
  · refine tHd_int rfl h1 rfl ⟨.ref ha, rfl, ha, _, 0, .ref hc, rfl, rfl, SqL.at h1.1, rfl, ?_⟩
    refine ⟨hc, cells.map V.int, rfl, .inl (SqL.at h1.2.1), i, _, rfl, rfl, _, rfl, ?_⟩
    refine ite2 (fun e2 => ?_) (fun e2 => ?_)
    · have e3 : i < (cells.length : Int) := by have := of_decide_eq_true e2; rwa [List.length_map] at this
      obtain ⟨j, rfl⟩ := Int.eq_ofNat_of_zero_le h1.2.2
      have e4 : j < cells.length := by omega
      have e5 : atI (cells.map V.int) ((j : Nat) : Int) = some (.int cells[j]) := atI_nat (by rw [List.getElem?_map, List.getElem?_eq_getElem e4]; rfl)
      -- cell = hand[0][hand[1]]
      refine ⟨.ref ha, rfl, ha, _, 0, .ref hc, rfl, rfl, SqL.at h1.1, rfl, tHd_int rfl h1 rfl ⟨hc, _, _, _, rfl, rfl, SqL.at h1.2.1, e5, ?_⟩⟩
      -- hand[1] = hand[1] + 1
      refine tHd_int rfl h1 rfl ⟨_, _, rfl, rfl, tHs_int (m := 1) rfl h1.1 rfl ?_⟩
      obtain ⟨h1a, h2a⟩ := HdS.put (i' := (j : Int) + 1) hne h1 h2 (by omega) rfl
      -- hand[3]
      refine tHd_int rfl h1a rfl ⟨_, _, rfl, rfl, .inr hb, _, rfl, _, _, rfl, rfl, .inr hcc, _, _, rfl, rfl, _, _, rfl, rfl, .inl ⟨_, rfl, _, _, rfl, rfl, hm, tHs_int (m := 3) rfl h1a.1 rfl ?_⟩⟩
      obtain ⟨h1b, h2b⟩ := HdS.put hne h1a h2a h1a.2.2 rfl
      refine ⟨_, rfl, 10, 18, rfl, rfl, ⟨by decide, by decide, by decide⟩, _, _, rfl, rfl, _, rfl, ?_⟩
      refine ite2 (fun e6 => ?_) (fun e6 => ?_)
      · refine ⟨_, rfl, tHs_int (m := 2) rfl h1b.1 rfl ?_⟩
        obtain ⟨h1c, h2c⟩ := HdS.put hne h1b h2b h1b.2.2 rfl
        exact q _ _ ⟨⟨_, _, _, _, _, h1c⟩, h2c⟩
      · refine tHs_int (m := 2) rfl h1b.1 rfl ?_
        obtain ⟨h1c, h2c⟩ := HdS.put hne h1b h2b h1b.2.2 rfl
        exact q _ _ ⟨⟨_, _, _, _, _, h1c⟩, h2c⟩
    · exact q _ _ ⟨⟨_, _, _, _, _, h1⟩, h2⟩
  · refine ite2 (fun e => Bool.noConfusion e) (fun _ => ?_)
    exact q _ _ ⟨⟨_, _, _, _, _, h1⟩, h2⟩
def tUse (K : PySem.W.Frag) : TS :=
  tIfS (tTest (tOp (rI0 fun i j => .bl (decide (j < i))) (tHd K 2) (tK 0)))
    (tSeq (tAsg (tMod (tInt (tHd K 2)) (tVar 1)) (gName 3)) (tSeq (tHs 2 (tDiv (tHd K 2) (tVar 1))) (tRet (tVar 3)))) tNext
theorem fmod_in {x m : Int} (hm : 1 ≤ m) : 0 ≤ x.fmod m ∧ x.fmod m < m := ⟨Int.fmod_nonneg_of_pos x (by omega), Int.fmod_lt_of_pos x (by omega)⟩
theorem use_ok {K : PySem.W.Frag} {ha hc : Addr} {m : Int} {s2 s3 s4 : Option V} {Dv : Ends} (hne : ha ≠ hc) (hm : 1 ≤ m) (hm2 : m < 1073741824) (h : HdS H0 ha hc H)
    (q : ∀ H', HdS H0 ha hc H' → Dv.nx [some (.ref ha), some (.int m), s2, s3, s4] H') (qr : ∀ r H', 0 ≤ r → r < m → HdS H0 ha hc H' → Dv.rt (.int r) H') : tUse K Dv [some (.ref ha), some (.int m), s2, s3, s4] H := by
  obtain ⟨⟨cells, i, x, y, z, h1⟩, h2⟩ := h
  refine tHd_int rfl h1 rfl ⟨_, _, rfl, rfl, _, rfl, ?_⟩
  refine ite2 (fun e => ?_) (fun e => ?_)
  · refine tHd_int rfl h1 rfl (.inl ⟨_, rfl, _, rfl, _, _, rfl, rfl, by omega, ?_⟩)
    refine tHd_int rfl h1 rfl ⟨_, rfl, _, _, rfl, rfl, ⟨by omega, by omega⟩, tHs_int (m := 2) rfl h1.1 rfl ⟨_, rfl, ?_⟩⟩
    obtain ⟨h1c, h2c⟩ := HdS.put hne h1 h2 h1.2.2 rfl
    exact qr _ _ (fmod_in hm).1 (fmod_in hm).2 ⟨⟨_, _, _, _, _, h1c⟩, h2c⟩
  · exact q _ ⟨⟨_, _, _, _, _, h1⟩, h2⟩
def tMix (K : PySem.W.Frag) (a b m1 d1 e1 m2 d2 e2 m3 : Int) : TS :=
  tSeq (tHs 4 (tAddI (tHd K 4) (tK 1))) (tSeq (tAsg (tMod (tInt (tMul (tInt (tAddI (tHd K 3) (tOp (rI CMul fun i j => .int (i * j)) (tK a) (tHd K 4)))) b)) (tK m1)) (gName 4))
    (tSeq (tAsg (tMod (tInt (tOp (rI CMul fun i j => .int (i * j)) (tVar 4) (tAddI (tDiv (tVar 4) (tK d1)) (tK e1)))) (tK m2)) (gName 4))
    (tSeq (tAsg (tMod (tInt (tOp (rI CMul fun i j => .int (i * j)) (tVar 4) (tAddI (tDiv (tVar 4) (tK d2)) (tK e2)))) (tK m3)) (gName 4))
      (tRet (tMod (tInt (tDiv (tVar 4) (tK 16))) (tVar 1))))))
def Md (m : Int) : Prop := 1 ≤ m ∧ m < 2 ^ 63
def Dg (m : Int) : Prop := 1 ≤ m ∧ m < 1073741824
theorem Md.c {m x : Int} (h : Md m) (k : Int) : CMul (x.fmod m) k := .inl (by have := fmod_in (x := x) h.1; have := h.2; omega)
theorem mix_ok {K : PySem.W.Frag} {a b m1 d1 e1 m2 d2 e2 m3 : Int} {ha hc : Addr} {m : Int} {s2 s3 s4 : Option V} {Dv : Ends} (hne : ha ≠ hc) (hm : 1 ≤ m) (ka : Md a) (kb : Md b) (k1 : Md m1) (k2 : Md m2) (k3 : Md m3) (kd1 : Dg d1) (kd2 : Dg d2) (h : HdS H0 ha hc H)
    (qr : ∀ r H', 0 ≤ r → r < m → HdS H0 ha hc H' → Dv.rt (.int r) H') : tMix K a b m1 d1 e1 m2 d2 e2 m3 Dv [some (.ref ha), some (.int m), s2, s3, s4] H := by
  obtain ⟨⟨cells, i, x, y, z, h1⟩, h2⟩ := h
  refine tHd_int rfl h1 rfl ⟨_, _, rfl, rfl, tHs_int (m := 4) rfl h1.1 rfl ?_⟩
  obtain ⟨h1c, h2c⟩ := HdS.put hne h1 h2 h1.2.2 rfl
  have cm : ∀ {u v : Int}, Md u → CMul u v := fun hu => .inl ⟨by have := hu.1; omega, by have := hu.2; omega⟩
  have cm2 : ∀ {u v : Int}, Md v → CMul u v := fun hu => .inr ⟨by have := hu.1; omega, by have := hu.2; omega⟩
  refine tHd_int rfl h1c rfl (tHd_int rfl h1c rfl ⟨_, _, rfl, rfl, cm ka, _, _, rfl, rfl, .inl ⟨_, rfl, _, _, rfl, rfl, cm2 kb, .inl ⟨_, rfl, _, _, rfl, rfl, by have := k1.1; omega, ?_⟩⟩⟩)
  refine ⟨_, rfl, _, rfl, _, _, rfl, rfl, ⟨by have := kd1.1; omega, by have := kd1.1; have := kd1.2; omega⟩, _, _, rfl, rfl, _, _, rfl, rfl, k1.c _, .inl ⟨_, rfl, _, _, rfl, rfl, by have := k2.1; omega, ?_⟩⟩
  refine ⟨_, rfl, _, rfl, _, _, rfl, rfl, ⟨by have := kd2.1; omega, by have := kd2.1; have := kd2.2; omega⟩, _, _, rfl, rfl, _, _, rfl, rfl, k2.c _, .inl ⟨_, rfl, _, _, rfl, rfl, by have := k3.1; omega, ?_⟩⟩
  refine ⟨_, rfl, _, _, rfl, rfl, ⟨by decide, by decide⟩, .inl ⟨_, rfl, _, rfl, _, _, rfl, rfl, by omega, ?_⟩⟩
  exact qr _ _ (fmod_in hm).1 (fmod_in hm).2 ⟨⟨_, _, _, _, _, h1c⟩, h2c⟩
def tDrawB (K : PySem.W.Frag) (b c d md a1 b1 m1 d1 e1 m2 d2 e2 m3 : Int) : TS := tSeq (tTake K b c d md) (tSeq (tUse K) (tMix K a1 b1 m1 d1 e1 m2 d2 e2 m3))
/-- a draw: any number below `many` -/
def spDraw (W : Wd) : SpecD := fun ds Q _ => ∃ m, ds = [hdD W, .int m] ∧ 1 ≤ m ∧ m < 1073741824 ∧ ∀ r, 0 ≤ r → r < m → Q (.int r)
theorem spDraw_mono : MonoD (spDraw W) := fun ds Q Q' X X' z _ ⟨m, a, b, c, d⟩ => ⟨m, a, b, c, fun r h1 h2 => z _ (d r h1 h2)⟩
def bDraw (W : Wd) : WS := fun env D _ => ∃ m, env = [.dt (hdD W), .dt (.int m), .non, .non, .non] ∧ 1 ≤ m ∧ m < 1073741824 ∧ ∀ r, 0 ≤ r → r < m → D.rt (.dt (.int r))
theorem ds_draw {sts : List Stmt} {t : TS} {hh : Addr × Addr} (eh : W.hand = some hh) (hp : PSs X sts t)
    (ht : ∀ {H0 H : Hp} {m : Int} {s2 s3 s4 : Option V} {Dv : Ends}, hh.1 ≠ hh.2 → 1 ≤ m → m < 1073741824 → HdS H0 hh.1 hh.2 H → (∀ r H', 0 ≤ r → r < m → HdS H0 hh.1 hh.2 H' → Dv.rt (.int r) H') → t Dv [some (.ref hh.1), some (.int m), s2, s3, s4] H) : DSs W G0 H0 E X sts (bDraw W) := by
  refine ⟨fun env D D' X z ⟨m, a, b, c, d⟩ => ⟨m, a, b, c, fun r h1 h2 => z.rt _ (d r h1 h2)⟩, _, hp, fun env σ G H Dv r ⟨m, he, h1, h2, h3⟩ => ?_⟩
  obtain ⟨hne, cells, i, x, y, z, g1, g2, g3⟩ := r.wok.hand _ eh
  have hh : hdD W = .vr (.ref hh.1) := by unfold hdD; rw [eh]
  obtain ⟨v0, a0, b0⟩ := r.dt 0 _ (by rw [he]; rfl)
  obtain ⟨v1, a1, b1⟩ := r.dt 1 _ (by rw [he]; rfl)
  rw [hh] at b0
  have c0 := rep_vr b0
  have c1 := rep_int b1
  subst c0 c1
  have hl := r.len
  rw [he] at hl
  match σ, hl, a0, a1 with
  | [x0, x1, s2, s3, s4], _, a0, a1 =>
    simp at a0 a1
    subst a0 a1
    refine ht hne h1 h2 (H0 := H) ⟨⟨_, _, _, _, _, g1, g2, g3⟩, fun _ _ => rfl⟩ fun q H' q1 q2 hs => ?_
    have s := hs.gst r.gok eh
    exact h3 q q1 q2 _ G H' (Same.refl _) (r.st.trans s) (by unfold repR; exact rep_int')
theorem drawB_ok {K : PySem.W.Frag} {b c d md a1 b1 m1 d1 e1 m2 d2 e2 m3 : Int} {ha hc : Addr} {m : Int} {s2 s3 s4 : Option V} {Dv : Ends} (kb0 : -(2 ^ 64) < b ∧ b < 2 ^ 64) (kc0 : -(2 ^ 64) < c ∧ c < 2 ^ 64) (kmd : md ≠ 0) (ka : Md a1) (kb : Md b1) (k1 : Md m1) (k2 : Md m2) (k3 : Md m3) (kd1 : Dg d1) (kd2 : Dg d2)
    (hne : ha ≠ hc) (hm : 1 ≤ m) (hm2 : m < 1073741824) (h : HdS H0 ha hc H) (qr : ∀ r H', 0 ≤ r → r < m → HdS H0 ha hc H' → Dv.rt (.int r) H') : tDrawB K b c d md a1 b1 m1 d1 e1 m2 d2 e2 m3 Dv [some (.ref ha), some (.int m), s2, s3, s4] H :=
  take_ok hne kb0 kc0 kmd h fun s2' H1 h1 => use_ok hne hm hm2 h1 (fun H2 h2 => mix_ok hne hm ka kb k1 k2 k3 kd1 kd2 h2 qr) qr
end
end DL
/-! a def that calls what it is given, within try; defs with tables -/
namespace DL
open PySem PySem.Spec PyProof.Rows L2 LamX
section
variable {W : Wd} {G0 H0 G G' H H' : Hp} {E : XK} {X : Cx} {k n : Nat} {env : Env1} {σ : L2.St}
theorem mx_var {i : Nat} : MonoX (wVar i) := fun env Q X X' z h => h
theorem mx_c {d : D} : MonoX (wC d) := fun env Q X X' z h => h
theorem mx_nil : MonoX wNil := fun env Q X X' z h => h
theorem mx_cons {f : WE} {g : WL} (mf : Mono f) (hf : MonoX f) (hg : MonoX g) : MonoX (wCons f g) := fun env Q X X' z h => hf _ _ _ _ z (mf _ _ _ _ (fun d h => hg _ _ _ _ z h) h)
theorem mx_call {S : SpecD} {g : WL} (hS : MonoD S) (mg : Mono g) (hg : MonoX g) : MonoX (wCall S g) := fun env Q X X' z h => hg _ _ _ _ z (mg _ _ _ _ (fun ds h => hS _ _ _ _ _ (fun _ h => h) z h) h)
theorem mx_tup {g : WL} (hg : MonoX g) : MonoX (wTup g) := fun env Q X X' z h => hg _ _ _ _ z h
theorem mx_lst {g : WL} (hg : MonoX g) : MonoX (wLst g) := fun env Q X X' z h => hg _ _ _ _ z h
theorem mx_dat {g : WL} (hg : MonoX g) : MonoX (wDat g) := fun env Q X X' z h => hg _ _ _ _ z h
theorem mx_op2 {g : D → D → PD → Prop} {fa fb : WE} (ma : Mono fa) (ha : MonoX fa) (hb : MonoX fb) : MonoX (wOp2 g fa fb) := fun env Q X X' z h => ha _ _ _ _ z (ma _ _ _ _ (fun d h => hb _ _ _ _ z h) h)
theorem RelS.rebase (r : RelS W G' H' env σ G H) (s : Gst W G0 H0 G' H') (w0 : WOk W H0) : RelS W G0 H0 env σ G H :=
  ⟨w0, s.trans r.st, r.len, r.dt, fun i ds e => by
    obtain ⟨p, xs, a, b, c, d, f⟩ := r.ow i ds e
    exact ⟨p, xs, a, b, c, s.fr d, f⟩, r.dj, fun i ks ds e => by
    obtain ⟨p, xs, a, b, c, d, f⟩ := r.od i ks ds e
    exact ⟨p, xs, a, b, c, s.fr d, f⟩, r.dd⟩
theorem takes_len {X : Cx} {U : L2.WX} (h : L2N.Takes X U) : L2N.Takes X (fun c d σ H => σ.length = X.N.length → U c d σ H) := fun u s' ⟨a, B, sI, pins, σ, H, cls, d, e, I, nb, up, sky, na, os, ag, w⟩ =>
  h u s' ⟨a, B, sI, pins, σ, H, cls, d, e, I, nb, up, sky, na, os, ag, w I.len⟩
/-- try: f() except C as e: suite; what the suite does with ex, e at a -/
def gone (i : Nat) (D : DEn) : DEn := { D with nx := fun e => D.nx (e.set i .non), bk := fun e => D.bk (e.set i .non), ct := fun e => D.ct (e.set i .non) }
theorem gone_le {i : Nat} {D D' : DEn} (z : D.le D') : (gone i D).le (gone i D') := ⟨fun e h => z.nx _ h, z.rt, fun e h => z.bk _ h, fun e h => z.ct _ h⟩
def wTryL (th : PD → PX → Prop) (n i : Nat) (fs : Addr → Ex → WS) : WS := fun env D Y =>
  th (fun _ => D.nx env) fun ex => ∀ a Y', fs a ex ((List.replicate n Sl.non).set i (.dt (.vr (.ref a)))) (gone i D) Y'
theorem relS_one {n i : Nat} {a : Addr} {σ : L2.St} (g : GOk W G H) (hl : σ.length = n) (hi : i < n) : RelS W G H ((List.replicate n Sl.non).set i (.dt (.vr (.ref a)))) (σ.set i (some (.ref a))) G H := by
  have nothing : ∀ (j : Nat) s, ((List.replicate n Sl.non).set i (.dt (.vr (.ref a))))[j]? = some s → (j = i ∧ s = .dt (.vr (.ref a))) ∨ s = .non := fun j s e => by
    by_cases hj : i = j
    · subst hj
      rw [List.getElem?_set_self (by rw [List.length_replicate]; exact hi)] at e
      exact .inl ⟨rfl, (Option.some.inj e).symm⟩
    · rw [List.getElem?_set_ne hj] at e
      obtain ⟨_, z⟩ := List.getElem?_eq_some_iff.mp e
      rw [List.getElem_replicate] at z
      exact .inr z.symm
  refine ⟨g.w, .refl g, by rw [List.length_set, List.length_set, List.length_replicate, hl], fun j d e => ?_, fun j ds e => ?_, fun j l ds es p _ e => ?_, fun j ks ds e => ?_, fun j l ks ds ks' es p _ e => ?_⟩
  · rcases nothing j _ e with ⟨rfl, z⟩ | z
    · cases z
      exact ⟨.ref a, List.getElem?_set_self (by rw [hl]; exact hi), by unfold rep; rfl⟩
    · cases z
  · rcases nothing j _ e with ⟨_, z⟩ | z <;> cases z
  · rcases nothing j _ e with ⟨_, z⟩ | z <;> cases z
  · rcases nothing j _ e with ⟨_, z⟩ | z <;> cases z
  · rcases nothing j _ e with ⟨_, z⟩ | z <;> cases z
theorem ds_tryL {th : PD → PX → Prop} {tl : XK → Hp → VK → Prop} {a x nm q : Str} {CS c' f : Addr} {i : Nat} {b0 : Stmt} {suite : List Stmt} {p1 p2 p3 np pos' pos : Pos} {fs : Addr → Ex → WS} {ok : Ex → Prop}
    (hs : X.stack = X.env :: X.outer) (hf : X.env.frame = some X.env.locals) (hK : X.K = W.K) (hN : X.N.Nodup) (hi : X.N[i]? = some nm) (hln : X.env.kindOf nm = some .local) (hc : Names X x (.ref CS)) (tk : L2N.Takes X (fun _ _ _ _ => False))
    (act : ∀ (U : L2.WX) (pn : List (Addr × Obj)) (xe : Value → Shared → Prop) (E : XK) (p1 p2 : Pos), L2N.Takes (X.tr pn xe) U → (∀ cls d σ' H', E cls d H' → U cls d σ' H') →
      PE (X.tr pn xe) (.Call (.Name a p1) [] [] p2) (fun σZ HZ Q => σZ[0]? = some (some (.ref f)) ∧ HZ c' = some (CodeO c' q) ∧ tl E HZ Q))
    (hsw : ∀ pn xe, swapsWith (.Call (.Name a p1) [] [] p2) none p3.line (X.tr pn xe).env = pure false)
    (hth : ∀ Q Q' Y Y', (∀ d, Q d → Q' d) → (∀ ex, Y ex → Y' ex) → th Q Y → th Q' Y')
    (htl : ∀ G' H' E Q', Gst W G0 H0 G' H' → th (QE W G' H' Q') (XOk W G' H' E) → tl E H' Q')
    (hcat : ∀ ex, ok ex → PySem.W.exmOne X.K (.ref (W.cls ex.nm)) (.ref CS) = some true)
    (hok : ∀ a ex env D Y, fs a ex env D Y → ok ex) (hfm : ∀ a ex, MonoS (fs a ex))
    (hc' : H0 c' = some (CodeO c' q))
    (hsu : ∀ (a : Addr) (oe : Obj) (ex : Ex) (dx : Option Addr) (pn : List (Addr × Obj)) (G H : Hp), L2N.Zn (.ref (W.cls ex.nm)) dx oe → (∃ vs, oe.data = .fields vs) → Held W G H ex (.ref (W.cls ex.nm)) dx → ok ex → DSs W G H E0 (X.suite a ((a, oe) :: pn)) (b0 :: suite) (fs a ex)) :
    DS W G0 H0 E0 X (.Try [.Expr (.Call (.Name a p1) [] [] p2) p3] [.ExceptHandler (some (.Name x np)) (some nm) (b0 :: suite) pos'] [] [] pos) (fun env D Y => env[0]? = some (.dt (.vr (.ref f))) ∧ wTryL th X.N.length i fs env D Y) := by
  have hil : i < X.N.length := (List.getElem?_eq_some_iff.mp hi).1
  refine ⟨fun env D D' Y z ⟨h0, h⟩ => ⟨h0, hth _ _ _ _ (fun _ h => z.nx _ h) (fun ex h a Y' => hfm a ex _ _ _ _ (gone_le z) (h a Y')) h⟩, _,
    L2N.ps_try_as hs hf hN hi hln hc tk (tb := fun U D σ H => ∃ Ech : XK, (∀ cls d σ' H', Ech cls d H' → σ'.length = X.N.length → U cls d σ' H') ∧ σ[0]? = some (some (.ref f)) ∧ H c' = some (CodeO c' q) ∧ tl Ech H (fun _ H' => D.nx σ H'))
      (fun U pn xe tk2 _ => ?_) (ts := fun a cls d D σ H => ∃ ex dx G1 H1 G env, cls = .ref (W.cls ex.nm) ∧ d = dx ∧ Held W G1 H1 ex (.ref (W.cls ex.nm)) dx ∧ ok ex ∧ RelS W G1 H1 env σ G H ∧ fs a ex env (dnOf W G1 H1 G D) (XOk W G1 H1 E0))
      (fun a oe cls d pn hz hfl => ?_), fun env σ G H Dv r h => ?_⟩
  · -- the body
    refine pss_one ⟨fun pins s σ H D I ⟨Ech, hW, h0, h1, h2⟩ => ?_⟩
    have hp := act _ pn xe Ech p1 p2 (takes_len tk2) (fun cls d σ' H' h hl => hW cls d σ' H' h hl)
    exact (ps_expr hp (hsw pn xe)).run pins s σ H D I ⟨h0, h1, h2⟩
  · -- the suite
    refine ⟨fun pins s σ H D I ⟨ex, dx, G1, H1, G, env, e1, e2, hh, hk, r, w⟩ => ?_⟩
    subst e1 e2
    obtain ⟨_, t, pt, qt⟩ := hsu a oe ex d pn G1 H1 hz hfl hh hk
    exact pt.run pins s σ H D I (qt env σ G H D r w)
  · obtain ⟨h0, h⟩ := h
    obtain ⟨v0, a0, b0⟩ := r.dt 0 _ h0
    have := rep_vr b0
    subst this
    have hcH : H c' = some (CodeO c' q) := r.st.keep c' _ hc' (fun ps z => by cases z) fun m => by
      rcases m with ⟨hh, eh, z⟩ | ⟨p, hp, z⟩
      · obtain ⟨_, cells, i, x, y, z', g1, g2, _⟩ := r.w0.hand hh eh
        rcases z with z | z
        · rw [z, g1] at hc'; cases hc'
        · rw [z, g2] at hc'; cases hc'
      · obtain ⟨ps, g1, _⟩ := r.w0.tabs p hp
        rw [z, g1] at hc'; cases hc'
    refine ⟨fun cls d H2 => ∀ σ' : L2.St, σ'.length = X.N.length → wAs X.K (.ref CS) i (fun a cls d D σ H => ∃ ex dx G1 H1 G env, cls = .ref (W.cls ex.nm) ∧ d = dx ∧ Held W G1 H1 ex (.ref (W.cls ex.nm)) dx ∧ ok ex ∧ RelS W G1 H1 env σ G H ∧ fs a ex env (dnOf W G1 H1 G D) (XOk W G1 H1 E0)) (fun _ _ _ _ => False) Dv cls d σ' H2, fun cls d σ' H2 h hl => h σ' hl, a0, hcH, htl G H _ _ r.st (hth _ _ _ _ (fun d h => ?_) (fun ex h => ?_) h)⟩
    · intro v G2 H2 s2 _
      exact h σ G2 H2 s2.le (r.step s2)
    · intro cls dx G2 H2 s2 hx σ' hl
      have ecl := hx.1
      subst ecl
      refine ⟨true, hcat ex (hok _ _ _ _ _ (h (0 : Nat) (fun _ => True))), fun _ a na => ?_, fun z => by cases z⟩
      refine ⟨ex, dx, G2, H2, G2, _, rfl, rfl, ⟨fun G3 H3 s3 => hx.step s3 s2.gok.w⟩, hok _ _ _ _ _ (h a (fun _ => True)), relS_one s2.gok hl hil, ?_⟩
      have s02 : Gst W G0 H0 G2 H2 := r.st.trans s2
      have base : ∀ {e : Env1} {σ'' : L2.St} {G3 H3 : Hp}, RelS W G2 H2 e σ'' G3 H3 → RelS W G0 H0 (e.set i .non) (σ''.set i none) G3 H3 := fun r3 => (r3.rebase s02 r.w0).set_non
      have hle : (gone i (dnOf W G0 H0 G Dv)).le (dnOf W G2 H2 G2 { nx := fun σ' H' => Dv.nx (σ'.set i none) H', rt := Dv.rt, bk := fun σ' H' => Dv.bk (σ'.set i none) H', ct := fun σ' H' => Dv.ct (σ'.set i none) H' }) :=
        ⟨fun e h σ'' G3 H3 sm r3 => h _ G3 H3 (s2.le.trans sm) (base r3), fun rs h v G3 H3 sm st rp => h v G3 H3 (s2.le.trans sm) (s02.trans st) (by
            cases rs with
            | dt d => exact rp
            | fr ds =>
              obtain ⟨p, xs, a1, a2, a3, a4, a5⟩ := rp
              exact ⟨p, xs, a1, a2, a3, s02.fr a4, a5⟩), fun e h σ'' G3 H3 sm r3 => h _ G3 H3 (s2.le.trans sm) (base r3), fun e h σ'' G3 H3 sm r3 => h _ G3 H3 (s2.le.trans sm) (base r3)⟩
      exact hfm a ex _ _ _ _ hle (h a _)
/-- the def that calls what it is given, told by its body's reading -/
theorem caught_gives {Ng : List Str} {x a q : Str} {sg : Scope} {g : Addr} {cdg : Value} {bg : List Stmt} {S : SpecT} {body : Addr → (PD → PX → Prop) → WS} (hN : 1 ≤ Ng.length) (hK : X.K = W.K)
    (hS : ∀ (f : Addr) (th : PD → PX → Prop) (Q : PD) (Y : PX), (∀ Q Q' Y Y', (∀ d, Q d → Q' d) → (∀ ex, Y ex → Y' ex) → th Q Y → th Q' Y') → S th Q → body f th (startE Ng [.vr (.ref f)]) (dRet Q) Y)
    (hD : ∀ (f c' : Addr) (s : Shared) (G H : Hp) (th : PD → PX → Prop) (tl : XK → Hp → VK → Prop), GOk W G H →
      (∀ (U : L2.WX) (pn : List (Addr × Obj)) (xe : Value → Shared → Prop) (E : XK) (p1 p2 : Pos), L2N.Takes ((cxOf C8.CX0 X.prog X.w X.K X.mg X.base Ng x sg g cdg X.A X.stack s H C8.E0).tr pn xe) U → (∀ cls d σ' H', E cls d H' → U cls d σ' H') →
        PE ((cxOf C8.CX0 X.prog X.w X.K X.mg X.base Ng x sg g cdg X.A X.stack s H C8.E0).tr pn xe) (.Call (.Name a p1) [] [] p2) (fun σZ HZ Q => σZ[0]? = some (some (.ref f)) ∧ HZ c' = some (CodeO c' q) ∧ tl E HZ Q)) →
      H c' = some (CodeO c' q) → (∀ Q Q' Y Y', (∀ d, Q d → Q' d) → (∀ ex, Y ex → Y' ex) → th Q Y → th Q' Y') → (∀ G' H' E Q', Gst W G H G' H' → th (QE W G' H' Q') (XOk W G' H' E) → tl E H' Q') →
      DSs W G H E0 (cxOf C8.CX0 X.prog X.w X.K X.mg X.base Ng x sg g cdg X.A X.stack s H C8.E0).nox bg (body f th)) : GivesN X Ng x sg g cdg bg a q (ttD W S) := by
  intro f c' s H Q tl act hc ⟨G, th, gk, mono, htl, h⟩
  obtain ⟨m, t, pt, qt⟩ := hD f c' s G H th tl gk act hc mono htl
  refine ⟨t, pt, qt (startE Ng [.vr (.ref f)]) (L2.start Ng [.ref f]) G H _ (relS_start gk (.cons (by unfold rep; rfl) .nil)) (m _ (dRet (QE W G H Q)) _ _ ⟨fun e h => ?_, fun r h => ?_, fun e h => False.elim h, fun e h => False.elim h⟩ (hS f th _ _ mono h))⟩
  · intro σ' G' H' sm r'
    exact h .non G' H' r'.st (by unfold rep; rfl)
  · intro v G' H' sm st rr
    cases r with
    | dt d => exact h v G' H' st rr
    | fr es =>
      obtain ⟨p, xs, rfl, a, b, n, rq⟩ := rr
      obtain ⟨st', rp'⟩ := reps_fr st.gok st a b n rq
      exact h (.ref p) _ H' st' rp'
end
section
variable {W : Wd} {P : Program} {w : World} {mg : Str → Option Value} {base : Heap} {x : Str} {k : Nat}
/-- a def whose code object is known -/
theorem CalD.mkC {st : Stmt} {f : Addr} {N ps : List Str} {S : SpecD} {body : WS} {kV doc pm cdv ct oc : Value} {an od : Option Addr} {osl : Array (Option Value)}
    (lk : W.K.lookup f = some ⟨oc, od, .func (PySem.W.fnOf x x (defArgs st) (defBody st) (defScope st) .none kV doc pm an cdv ct), osl⟩) (hcd : PySem.W.codeIn W.K cdv x = true) (kp : PySem.W.keepIn W.K (.ref f) = true)
    (hm : mg x = some (.ref f)) (hb : Binds W.K (PySem.W.fnOf x x (defArgs st) (defBody st) (defScope st) .none kV doc pm an cdv ct) ps []) (sc : FnScope N ps (defScope st)) (mono : MonoD S)
    (hbody : ∀ (G : Hp) (A : Around) (outer : List Env) (s : Shared) (H : Hp) (E : XK), DC W E k (cxOf (L2N.CX P w) P w W.K mg base N x (defScope st) f cdv A outer s H E) →
      DSs W G H E (cxOf (L2N.CX P w) P w W.K mg base N x (defScope st) f cdv A outer s H E) (defBody st) body)
    (hS : ∀ ds Q Y, ds.length = ps.length → S ds Q Y → body (startE N ds) (dRet Q) Y) : CalD W P w mg base x (k + 1) ps.length S := by
  refine ⟨mono, f, _, ps, hm, kp, hb, ?_⟩
  refine fn_of lk hcd sc (fun vs H Q E h => h.1) (fun A outer s H vs Q E hr h => ?_)
  obtain ⟨hl, G, ds, g, rp, hs⟩ := h
  obtain ⟨m, t, pt, q⟩ := hbody G A outer s H E (DC.of_cx sc hr)
  refine ⟨t, pt, q (startE N ds) (L2.start N vs) G H _ (relS_start g rp) (m _ (dRet (QE W G H Q)) _ _ ⟨fun e h => ?_, fun r h => ?_, fun e h => False.elim h, fun e h => False.elim h⟩ (hS ds _ _ (by rw [← rp.length, hl]) hs))⟩
  · intro σ' G' H' sm r'
    exact h .non G' H' r'.st (by unfold rep; rfl)
  · intro v G' H' sm st rr
    cases r with
    | dt d => exact h v G' H' st rr
    | fr es =>
      obtain ⟨p, xs, rfl, a, b, n, rq⟩ := rr
      obtain ⟨st', rp'⟩ := reps_fr st.gok st a b n rq
      exact h (.ref p) _ H' st' rp'
end

/-! ### the law's own start -/
section
variable {P : Program} {w : World} {K : PySem.W.Frag} {mg : Str → Option Value} {base : Heap} {k : Nat} {T : List (Addr × Str)} {cls : String → Addr}
/-- what _law_hand gives -/
def spHand (K : PySem.W.Frag) (T : List (Addr × Str)) : Sp := fun vs H Q _ => ∃ (a : Addr) (ns : List Int), vs = [.ref a] ∧ SqL K H a (ns.map V.int) ∧ Tabs T H ∧ ∀ H' ha hc, HandAt H' ha hc → Tabs T H' → Q (.ref ha) H'
def spLaw (K : PySem.W.Frag) (T : List (Addr × Str)) : Sp := fun vs H Q _ => ∃ (a : Addr) (ns : List Int), vs = [.ref a] ∧ SqL K H a (ns.map V.int) ∧ Tabs T H ∧ ∀ H', Q (.bl true) H'
theorem Gst.sqL {W : Wd} {G H G' H' : Hp} {a : Addr} {xs : List V} (s : Gst W G H G' H') (w : WOk W H) (hh : W.hand = none) (h : SqL W.K H a xs) : SqL W.K H' a xs := by
  have hk : ∀ o, H a = some o → (∀ ps, o ≠ .tbl ps) → H' a = some o := fun o e n => s.keep a o e n fun m => by
    rcases m with ⟨h, z, _⟩ | ⟨p, hp, z⟩
    · rw [hh] at z; cases z
    · obtain ⟨ps, g1, _⟩ := w.tabs p hp
      rw [z, g1] at e
      exact n ps (Option.some.inj e).symm
  rcases h with (h | ⟨o, h⟩) | h
  · exact .inl (.inl (hk _ h fun ps z => by cases z))
  · exact .inl (.inr ⟨o, hk _ h fun ps z => by cases z⟩)
  · exact .inr h
/-- script[:n] of the script, wherever it stands -/
theorem df_script {W : Wd} {G0 H0 : Hp} {E : XK} {X : Cx} {a : Addr} {ns : List Int} {x : Str} {lo hi : Option Expr} {fl fh : WO} {p p2 pos : Pos} (hK : X.K = W.K) (hh : W.hand = none) (h0 : SqL W.K H0 a (ns.map V.int)) (hp : PE X (.Name x p) (tVar 0))
    (hl : DO W G0 H0 E X lo fl) (hv : DO W G0 H0 E X hi fh) : DF W G0 H0 E X (.Subscript (.Name x p) (.Slice lo hi none p2) pos) (fun env Q Y => env[0]? = some (.dt (.vr (.ref a))) ∧ fl env (fun l => fh env (fun u => Q (cutD (ns.map D.int) l u)) Y) Y) := by
  obtain ⟨ml, tl, pl, ql⟩ := hl
  obtain ⟨mh, th, ph, qh⟩ := hv
  refine ⟨fun env Q Q' Y z ⟨h0, w⟩ => ⟨h0, ml _ _ _ _ (fun l w => mh _ _ _ _ (fun u w => z _ w) w) w⟩, _, pe_slice sl_list hp pl ph, fun env σ G H Q r ⟨e0, w⟩ => ?_⟩
  obtain ⟨v, h1, h2⟩ := r.dt 0 _ e0
  have := rep_vr h2
  subst this
  refine ⟨.ref a, h1, ql env σ G H _ r (ml _ _ _ _ (fun l w => ?_) w)⟩
  intro G1 H1 s1
  refine qh env σ G1 H1 _ (r.step s1) (mh _ _ _ _ (fun u w => ?_) w)
  intro G2 H2 s2
  have s12 := r.st.trans (s1.trans s2)
  have hs : SqL X.K H2 a (ns.map V.int) := by rw [hK]; exact s12.sqL r.w0 hh h0
  refine ⟨a, ns.map V.int, rfl, hs, fun c nc => ?_⟩
  have s3 : Gst W G2 H2 G2 (upd H2 c (.lst (cutV (ns.map V.int) l u))) := Gst.hid s2.gok _ nc
  exact w c _ G2 _ ((s1.trans s2).trans s3) ((s1.trans s2).frn nc) upd_same (s2.gok.nn nc) (cut_rep (reps_map (fun i => by unfold rep; rfl) ns))
theorem hand_ok {st : Stmt} {f : Addr} {fd : FuncData} {N : List Str} {body : Addr → List Int → WS} (F : Fun K "_law_hand" "_law_hand" st f fd) (sc : FnScope N ["script"] (defScope st))
    (hbody : ∀ (a : Addr) (ns : List Int) (G : Hp) (cdv : Value) (A : Around) (outer : List Env) (s : Shared) (H : Hp) (E : XK), SqL K H a (ns.map V.int) → DC ⟨K, none, T, cls⟩ E k (cxOf (L2N.CX P w) P w K mg base N "_law_hand" (defScope st) f cdv A outer s H E) →
      DSs ⟨K, none, T, cls⟩ G H E (cxOf (L2N.CX P w) P w K mg base N "_law_hand" (defScope st) f cdv A outer s H E) (defBody st) (body a ns))
    (hS : ∀ a ns Q Y, (∀ (cells : List Int) (i x y z : Int), 0 ≤ i → Q [.lst (cells.map D.int), .int i, .int x, .int y, .int z]) → body a ns (startE N [.vr (.ref a)]) (dRetF Q) Y) : FnOk P w K mg base (L2N.CX P w) (k + 1) f fd ["script"] (spHand K T) := by
  refine okN F sc (fun vs H Q E ⟨a, ns, e, _⟩ => by rw [e]; rfl) (fun cdv A outer s H vs Q E hr h => ?_)
  obtain ⟨a, ns, rfl, hs, hT, q⟩ := h
  have g : GOk ⟨K, none, T, cls⟩ (fun _ => none) H := ⟨(fun _ _ z => by cases z), ⟨(fun _ z => by cases z), hT⟩, (fun _ _ => rfl), (fun _ _ z => by cases z)⟩
  obtain ⟨m, t, pt, qt⟩ := hbody a ns (fun _ => none) cdv A outer s H E hs (DC.of_cx (W := ⟨K, none, T, cls⟩) sc hr)
  refine ⟨t, pt, qt (startE N [.vr (.ref a)]) (L2.start N [.ref a]) _ H _ (relS_start g (.cons (by unfold rep; rfl) .nil)) (m _ (dRetF fun ds => ∃ (cells : List Int) (i x y z : Int), 0 ≤ i ∧ ds = [.lst (cells.map D.int), .int i, .int x, .int y, .int z]) _ _ ⟨fun e h => False.elim h, fun r h => ?_, fun e h => False.elim h, fun e h => False.elim h⟩ (hS a ns _ _ fun cells i x y z hi => ⟨cells, i, x, y, z, hi, rfl⟩))⟩
  intro v G' H' sm st rr
  obtain ⟨es, rfl, cells, i, x, y, z, hi, rfl⟩ := h
  obtain ⟨p, xs, rfl, a1, b1, n, rq⟩ := rr
  obtain ⟨v0, r0, rfl, c0, rq⟩ := rq.uncons
  obtain ⟨v1, r1, rfl, c1, rq⟩ := rq.uncons
  obtain ⟨v2, r2, rfl, c2, rq⟩ := rq.uncons
  obtain ⟨v3, r3, rfl, c3, rq⟩ := rq.uncons
  obtain ⟨v4, r4, rfl, c4, rq⟩ := rq.uncons
  have := rq.nil_eq
  subst this
  have e1 := rep_int c1
  have e2 := rep_int c2
  have e3 := rep_int c3
  have e4 := rep_int c4
  subst e1 e2 e3 e4
  obtain ⟨c, xs, rfl, d1, d2⟩ := rep_lst c0
  have d3 := reps_ints d2
  subst d3
  refine q H' p c ⟨fun z => ?_, cells, i, x, y, z, a1, st.gok.le _ _ d1, hi⟩ st.gok.w.tabs
  rw [← z, b1] at d1
  cases d1
def tAny (X : Cx) (sts : List Stmt) : TS := fun D σ H => ∃ t : TS, PSs X sts t ∧ t D σ H
theorem pss_any {X : Cx} {sts : List Stmt} : PSs X sts (tAny X sts) := ⟨fun pins s σ H D I ⟨t, p, h⟩ => p.run pins s σ H D I h⟩
theorem law_ok {st s1 : Stmt} {rest : List Stmt} {f : Addr} {fd : FuncData} {N : List Str} {body : Wd → WS} (F : Fun K "law" "law" st f fd) (sc : FnScope N ["script"] (defScope st)) (hb : defBody st = s1 :: rest) (hN : 2 ≤ N.length)
    (h1 : ∀ (cdv : Value) (A : Around) (outer : List Env) (s : Shared) (H : Hp) (E : XK), Room k (cxOf (L2N.CX P w) P w K mg base N "law" (defScope st) f cdv A outer s H E).A → Passes (L2N.CX P w) (cxOf (L2N.CX P w) P w K mg base N "law" (defScope st) f cdv A outer s H E) E →
      PS (cxOf (L2N.CX P w) P w K mg base N "law" (defScope st) f cdv A outer s H E) s1 (tAsg (tCall (spHand K T) [] E (tCons (tVar 0) tNil)) (gName 1)))
    (hrest : ∀ (hh : Addr × Addr) (G : Hp) (cdv : Value) (A : Around) (outer : List Env) (s : Shared) (H H1 : Hp) (E : XK), DC ⟨K, some hh, T, cls⟩ E k (cxOf (L2N.CX P w) P w K mg base N "law" (defScope st) f cdv A outer s H E) →
      DSs ⟨K, some hh, T, cls⟩ G H1 E (cxOf (L2N.CX P w) P w K mg base N "law" (defScope st) f cdv A outer s H E) rest (body ⟨K, some hh, T, cls⟩))
    (hS : ∀ hh Y, body ⟨K, some hh, T, cls⟩ ((List.replicate N.length Sl.non).set 1 (.dt (hdD ⟨K, some hh, T, cls⟩))) (dRet fun d => d = .bl true) Y) : FnOk P w K mg base (L2N.CX P w) (k + 1) f fd ["script"] (spLaw K T) := by
  refine okN F sc (fun vs H Q E ⟨a, ns, e, _⟩ => by rw [e]; rfl) (fun cdv A outer s H vs Q E hr h => ?_)
  obtain ⟨a, ns, rfl, hs, hT, q⟩ := h
  have C0 := DC.of_cx (P := P) (w := w) (W := ⟨K, none, T, cls⟩) (mg := mg) (base := base) (x := "law") (f := f) (cdv := cdv) (outer := outer) (H := H) (E := E) sc hr
  rw [hb]
  refine ⟨_, pss_cons (h1 cdv A outer s H E C0.room C0.pass) pss_any, ?_⟩
  have hl : (L2.start N [V.ref a]).length = N.length := by
    unfold L2.start
    rw [List.length_append, List.length_map, List.length_replicate]
    show 1 + (N.length - 1) = N.length
    omega
  refine ⟨.ref a, ?_, a, ns, rfl, hs, hT, fun H' ha hc hh hT' => ?_⟩
  · unfold L2.start; rfl
  · have g : GOk ⟨K, some (ha, hc), T, cls⟩ (fun _ => none) H' := ⟨(fun _ _ z => by cases z), ⟨(fun _ z => by cases z; exact hh), hT'⟩, (fun _ _ => rfl), (fun _ _ z => by cases z)⟩
    obtain ⟨m, t, pt, qt⟩ := hrest (ha, hc) (fun _ => none) cdv A outer s H H' E (DC.of_cx (W := ⟨K, some (ha, hc), T, cls⟩) sc hr)
    refine ⟨t, pt, ?_⟩
    refine qt _ _ _ H' _ (relS_one (i := 1) (a := ha) g hl (by omega)) (m _ (dRet fun d => d = .bl true) _ _ ⟨fun e h => ?_, fun r h => ?_, fun e h => False.elim h, fun e h => False.elim h⟩ (hS (ha, hc) _))
    · cases (show D.non = D.bl true from h)
    · intro v G' H2 sm st' rr
      cases r with
      | dt d =>
        have e : d = .bl true := h
        subst e
        have := rep_bl (show rep K G' (.bl true) v from rr)
        subst this
        exact q H2
      | fr es => cases (show D.lst es = D.bl true from h)
end
end DL
/-! str.count of a sign; a dict display of one pair -/
namespace DL
open PySem PySem.Spec PyProof.Rows L2
theorem subAt_sign (s : List Nat) (c i : Nat) : Builtin.Str.subAt (zs s) (zs [c]) i = decide (s[i]? = some c) := by
  have h : ((zs s).cps.extract i (i + (zs [c]).length) == (zs [c]).cps) = decide (((s.drop i).take 1) = [c]) := by
    rw [Bool.eq_iff_iff, beq_iff_eq, decide_eq_true_iff]
    show s.toArray.extract i (i + 1) = [c].toArray ↔ _
    constructor
    · intro h
      have h2 := congrArg Array.toList h
      rw [Array.toList_extract, List.extract_eq_drop_take] at h2
      simpa using h2
    · intro h
      apply Array.toList_inj.mp
      rw [Array.toList_extract, List.extract_eq_drop_take]
      simpa using h
  unfold Builtin.Str.subAt
  rw [h, Bool.eq_iff_iff, decide_eq_true_iff, decide_eq_true_iff]
  rw [← List.head?_drop]
  cases s.drop i with
  | nil => simp
  | cons a l => simp
theorem occ_sign (s : List Nat) (c : Nat) : ∀ (m j : Nat) (st : Array Nat × Nat), j + m = s.length + 1 → st.2 ≤ j → st.1.size ≤ j →
    (forIn (List.range' j m) st (StrLaws.occBody (zs s) (zs [c]) (zs s).length (s.length + 1))).run.fst.size = st.1.size + (s.drop j).count c
  | 0, j, st, h, _, _ => by
    rw [List.drop_eq_nil_of_le (by omega)]
    simp
  | m + 1, j, st, h, h1, h2 => by
    rw [List.range'_succ, List.forIn_cons]
    unfold StrLaws.occBody
    rw [subAt_sign]
    have hl : (zs s).length = s.length := zs_len s
    have hl1 : (zs [c]).length = 1 := zs_len [c]
    by_cases hj : s[j]? = some c
    · have hlt : j < s.length := (List.getElem?_eq_some_iff.mp hj).1
      rw [if_pos ⟨⟨⟨by omega, h1⟩, by omega⟩, by simpa using hj⟩]
      have ih := occ_sign s c m (j + 1) (st.1.push j, j + 1) (by omega) (Nat.le_refl _) (by simp; omega)
      have e := List.drop_eq_getElem_cons hlt
      have e2 : s[j] = c := by rw [List.getElem?_eq_getElem hlt] at hj; exact Option.some.inj hj
      rw [e, e2, List.count_cons_self]
      simp only [hl1]
      refine Eq.trans ih ?_
      simp
      omega
    · rw [if_neg (fun z => hj (by simpa using z.2))]
      have ih := occ_sign s c m (j + 1) st (by omega) (by omega) (by omega)
      refine Eq.trans ih ?_
      by_cases hlt : j < s.length
      · rw [List.drop_eq_getElem_cons hlt, List.count_cons_of_ne]
        intro q
        exact hj (by rw [List.getElem?_eq_getElem hlt]; exact congrArg some q)
      · rw [List.drop_eq_nil_of_le (show s.length ≤ j by omega), List.drop_eq_nil_of_le (by omega)]
theorem count_sign (s : List Nat) (c : Nat) : Txt.count (zs s) (zs [c]) = (s.count c : Nat) := by
  unfold Txt.count
  rw [StrLaws.occ_eq]
  have h := occ_sign s c (s.length + 1) 0 (#[], 0) (by omega) (Nat.le_refl _) (Nat.le_refl _)
  have hl : (zs s).length = s.length := zs_len s
  rw [hl]
  rw [hl] at h
  show (((forIn (List.range' 0 (s.length + 1 - 0)) (#[], 0) (StrLaws.occBody (zs s) (zs [c]) s.length (s.length + 1))).run.fst.toList.length : Nat) : Int) = _
  rw [Array.length_toList, Nat.sub_zero, h]
  simp
section
variable {W : Wd} {G0 H0 G G' H H' : Hp} {E : XK} {X : Cx} {k n : Nat} {env : Env1} {σ : L2.St}
def gCountS : D → List D → PD → Prop := fun o ds Q => ∃ (s : List Nat) (c : Nat), o = .str s ∧ ds = [.str [c]] ∧ Q (.int (s.count c : Nat))
theorem lift_countS : LiftM W (fun x xs H Q => ∃ a b, x = .str a ∧ xs = [.str b] ∧ Q (.int (Txt.count a b)) H) isStr gCountS :=
  ⟨fun o ds Q Q' z ⟨s, c, a, b, h⟩ => ⟨s, c, a, b, z _ h⟩, fun G H x vs o ds Q g ro rs ⟨s, c, a, b, h⟩ => by
    subst a b
    obtain ⟨v, rfl, rv⟩ := reps1 rs
    have e1 := rep_str ro
    have e2 := rep_str rv
    subst e1 e2
    exact ⟨_, _, rfl, rfl, by rw [count_sign]; exact QE.here g rep_int' h⟩⟩
def wDisp1 (key : Key) (f : WE) : WE := fun env Q Y => f env (fun d => Q (.dct [key] [d])) Y
theorem de_disp1 {ke ve : Expr} {key : Key} {f : WE} {pos : Pos} (hk : PE X ke (tC (kV key))) (hv : DE W G0 H0 E X ve f) : DE W G0 H0 E X (.Dict [some ke] [ve] pos) (wDisp1 key f) := by
  obtain ⟨m, t, p, q⟩ := hv
  refine ⟨fun env Q Q' X z w => m _ _ _ _ (fun d w => z _ w) w, _, pe_disp (pps_cons hk p pps_nil) rfl rfl (by intro z; cases z) (by show 1 ≤ 15; decide), fun env σ G H Q r w a ha => ?_⟩
  have s1 : Gst W G H G (upd H a (.dK [])) := Gst.hid r.gok _ ha
  have na : G a = none := r.gok.nn ha
  have fa : fr W H a := r.gok.w.fr ha
  refine q env σ G _ _ (r.step s1) (m _ _ _ _ (fun d w => ?_) w)
  intro v G2 H2 s2 rv
  have ea : H2 a = some (.dK []) := s2.keep a _ upd_same (fun ps z => by cases z) fa.1
  have ga : G2 a = none := by
    cases e : G2 a with
    | none => rfl
    | some o =>
      rcases s2.new a o e with z | z
      · rw [na] at z; cases z
      · exact (z.not upd_same (fun ps z => by cases z)).elim
  refine ⟨ea, [(key, v)], rfl, (by show 1 ≤ 15; decide), ?_⟩
  have s12 := s1.trans s2
  have sm : Same G2 (upd G2 a (.dK [(key, v)])) := same_new ga
  refine w (.ref a) (upd G2 a (.dK [(key, v)])) _ ⟨⟨fun b o z => ?_, ⟨fun h eh => ?_, fun p hp => ?_⟩, fun b hb => ?_, fun b ps z => ?_⟩, s12.le.trans sm, fun b o z => ?_, fun b o z t nm => ?_⟩ ?_
  · by_cases hb : b = a
    · subst hb; rw [upd_same] at z; cases z; exact upd_same
    · rw [upd_ne hb] at z; rw [upd_ne hb]; exact s12.gok.le b o z
  · obtain ⟨n, cells, i, x, y, z, g1, g2, g3⟩ := s12.gok.w.hand h eh
    refine ⟨n, cells, i, x, y, z, ?_, ?_, g3⟩
    · rw [upd_ne (fun q => by rw [q, ea] at g1; cases g1)]; exact g1
    · rw [upd_ne (fun q => by rw [q, ea] at g2; cases g2)]; exact g2
  · obtain ⟨ps, g1, g2, g3⟩ := s12.gok.w.tabs p hp
    refine ⟨ps, by rw [upd_ne (fun q => by rw [q, ea] at g1; cases g1)]; exact g1, g2, fun pos cv hc => ?_⟩
    obtain ⟨c, e1, e2⟩ := g3 pos cv hc
    exact ⟨c, e1, by rw [upd_ne (fun q => by rw [q, ea] at e2; cases e2)]; exact e2⟩
  · rw [upd_ne (fun q => fa.1 (by rw [← q]; exact hb))]; exact s12.gok.nm b hb
  · by_cases hb : b = a
    · subst hb; rw [upd_same] at z; cases z
    · rw [upd_ne hb] at z; exact s12.gok.tb b ps z
  · by_cases hb : b = a
    · subst hb; exact .inr fa
    · rw [upd_ne hb] at z; exact s12.new b o z
  · rw [upd_ne (fun q => by rw [q, ha] at z; cases z)]; exact s12.keep b o z t nm
  · unfold rep
    exact ⟨a, [(key, v)], rfl, upd_same, rfl, .cons (rep_mono sm _ _ rv) .nil⟩
end
end DL
/-! short names for the printer -/
namespace DL
open PySem PySem.Spec PyProof.Rows L2
theorem bt_len : bootBuiltins "len" = some (.builtin "len") := by decide +kernel
theorem bt_isinstance : bootBuiltins "isinstance" = some (.builtin "isinstance") := by decide +kernel
theorem bt_all : bootBuiltins "all" = some (.builtin "all") := by decide +kernel
theorem bt_any : bootBuiltins "any" = some (.builtin "any") := by decide +kernel
theorem bt_sum : bootBuiltins "sum" = some (.builtin "sum") := by decide +kernel
theorem bt_abs : bootBuiltins "abs" = some (.builtin "abs") := by decide +kernel
theorem bt_min : bootBuiltins "min" = some (.builtin "min") := by decide +kernel
theorem bt_max : bootBuiltins "max" = some (.builtin "max") := by decide +kernel
theorem bt_int : bootBuiltins "int" = some (.type "int") := by decide +kernel
theorem bt_str : bootBuiltins "str" = some (.type "str") := by decide +kernel
theorem bt_bool : bootBuiltins "bool" = some (.type "bool") := by decide +kernel
theorem bt_list : bootBuiltins "list" = some (.type "list") := by decide +kernel
theorem bt_tuple : bootBuiltins "tuple" = some (.type "tuple") := by decide +kernel
theorem bt_dict : bootBuiltins "dict" = some (.type "dict") := by decide +kernel
theorem bt_ValueError : bootBuiltins "ValueError" = some (.type "ValueError") := by decide +kernel
section
variable {W : Wd} {G0 H0 G G' H H' : Hp} {E : XK} {X : Cx} {k n : Nat} {env : Env1} {σ : L2.St}
def gIsi : List D → PD → Prop := fun ds Q => isiD ds Q ∧ ∀ d ts, ds = [d, .tup ts] → False
theorem de_ty {x : Str} {pos : Pos} {t : String} (hg : Gl X x) (hm : X.mg x = none) (hv : bootBuiltins x = some (.type t)) (hn : x ≠ "__name__" := by decide) (hdb : (x == ("__debug__" : Str)) = false := by decide) : DE W G0 H0 E X (.Name x pos) (wC (.vr (.ty t))) :=
  de_const (v := .ty t) (pe_bltn hg hm hv rfl hn hdb) fun _ => by unfold rep; rfl
theorem de_gcI {x : Str} {pos : Pos} {i : Int} (hg : Gl X x) (h : ∃ u, X.mg x = some u ∧ RelV (.int i) u) (hdb : (x == ("__debug__" : Str)) = false := by decide) : DE W G0 H0 E X (.Name x pos) (wC (.int i)) :=
  by
  obtain ⟨u, hm, r⟩ := h
  exact de_const (pe_glob hg hm r hdb) fun _ => rep_int'
theorem de_gcS {x : Str} {pos : Pos} {s : List Nat} (hg : Gl X x) (h : ∃ u, X.mg x = some u ∧ RelV (.str (zs s)) u) (hdb : (x == ("__debug__" : Str)) = false := by decide) : DE W G0 H0 E X (.Name x pos) (wC (.str s)) :=
  by
  obtain ⟨u, hm, r⟩ := h
  exact de_const (pe_glob hg hm r hdb) fun _ => rep_str'
end
end DL
/-! plain lemmas over the readings: comprehensions as lists -/
namespace DL
open PySem PySem.Spec PyProof.Rows L2
section
variable {w w1 : WG} {tt tt1 : WT} {te : WE} {env : Env1} {X : PX} {α β : Type}
/-- one turn of a comprehension -/
def lcStep (w : WG) (tt : WT) (te : WE) (env : Env1) (X : PX) (d : D) (K : Option D → Prop) : Prop := w env d (fun env' => tt env' (fun b => if b = true then te env' (fun y => K (some y)) X else K none) X)
theorem lc_fm {f : α → D} {g : α → Option D} : ∀ {xs : List α} {Q : List D → Prop}, (∀ x ∈ xs, ∀ K, K (g x) → lcStep w tt te env X (f x) K) → Q (xs.filterMap g) → lcRun w tt te env (xs.map f) Q X
  | [], Q, _, h => h
  | x :: xs, Q, hs, h => by
    refine hs x List.mem_cons_self (fun o => match o with | some y => lcRun w tt te env (xs.map f) (fun ys => Q (y :: ys)) X | none => lcRun w tt te env (xs.map f) Q X) ?_
    have hs' : ∀ y ∈ xs, ∀ K, K (g y) → lcStep w tt te env X (f y) K := fun y hy => hs y (List.mem_cons_of_mem _ hy)
    rw [List.filterMap_cons] at h
    cases e : g x with
    | none => rw [e] at h; exact lc_fm hs' h
    | some y => rw [e] at h; exact lc_fm hs' h
theorem lc_map {f g : α → D} {xs : List α} {Q : List D → Prop} (hs : ∀ x ∈ xs, ∀ K, K (some (g x)) → lcStep w tt te env X (f x) K) (h : Q (xs.map g)) : lcRun w tt te env (xs.map f) Q X := by
  refine lc_fm (g := fun x => some (g x)) hs ?_
  rw [show (xs.filterMap fun x => some (g x)) = xs.map g from by rw [← List.filterMap_eq_map]; rfl]
  exact h
theorem fm_filter {f : α → β} {p : α → Bool} : ∀ xs : List α, (xs.filterMap fun x => if p x then some (f x) else none) = (xs.filter p).map f
  | [] => rfl
  | a :: l => by
    rw [List.filterMap_cons, List.filter_cons]
    cases hp : p a <;> simp [hp, fm_filter l]
theorem lc_filter {f g : α → D} {p : α → Bool} {xs : List α} {Q : List D → Prop} (hs : ∀ x ∈ xs, ∀ K, (p x = true → K (some (g x))) → (p x = false → K none) → lcStep w tt te env X (f x) K) (h : Q ((xs.filter p).map g)) : lcRun w tt te env (xs.map f) Q X := by
  refine lc_fm (g := fun x => if p x then some (g x) else none) (fun x hx K hk => hs x hx K (fun e => by simpa [e] using hk) (fun e => by simpa [e] using hk)) ?_
  rw [fm_filter]
  exact h
/-- elements that are not settled, but of a kind -/
theorem lc_dem {f : α → D} {P : D → Prop} : ∀ {xs : List α} {Q : List D → Prop}, (∀ x ∈ xs, ∀ K, (∀ y, P y → K (some y)) → lcStep w tt te env X (f x) K) → (∀ ys : List D, ys.length = xs.length → (∀ y ∈ ys, P y) → Q ys) → lcRun w tt te env (xs.map f) Q X
  | [], Q, _, h => h [] rfl (fun y hy => by simp at hy)
  | x :: xs, Q, hs, h => by
    refine hs x List.mem_cons_self (fun o => match o with | some y => lcRun w tt te env (xs.map f) (fun ys => Q (y :: ys)) X | none => lcRun w tt te env (xs.map f) Q X) fun y hy => ?_
    exact lc_dem (fun z hz => hs z (List.mem_cons_of_mem _ hz)) fun ys hl hp => h (y :: ys) (by simp [hl]) fun z hz => by
      rcases List.mem_cons.mp hz with e | e
      · rw [e]; exact hy
      · exact hp z e
theorem lc2_in {te : WE} {j : Nat} {f g : β → D} : ∀ {ys : List β} {acc : List D} {Q : List D → Prop}, (∀ y ∈ ys, ∀ K, K (g y) → te (env.set j (.dt (f y))) K X) → acc.length + ys.length ≤ sizeLine → Q (acc ++ ys.map g) → lc2In (wN j) wYes te env (ys.map f) acc Q X
  | [], acc, Q, _, _, h => by rw [List.map_nil, List.append_nil] at h; exact h
  | y :: ys, acc, Q, hs, hl, h => by
    show te (env.set j (.dt (f y))) (fun z => acc.length < sizeLine ∧ lc2In (wN j) wYes te env (ys.map f) (acc ++ [z]) Q X) X
    refine hs y List.mem_cons_self _ ⟨by simp at hl; omega, ?_⟩
    exact lc2_in (fun z hz => hs z (List.mem_cons_of_mem _ hz)) (by simp at hl ⊢; omega) (by simpa using h)
theorem lc2_N {i j : Nat} {it1 : WL} {te : WE} {vs1 : List Nat} {f : α → D} {ys : α → List β} {f1 g : α → β → D} : ∀ {xs : List α} {acc : List D} {Q : List D → Prop},
    (∀ x ∈ xs, ∀ K, K ((ys x).map (f1 x)) → it1 (env.set i (.dt (f x))) K X) → (∀ x ∈ xs, ∀ y ∈ ys x, ∀ K, K (g x y) → te ((wipeE (env.set i (.dt (f x))) vs1).set j (.dt (f1 x y))) K X) →
    acc.length + (xs.flatMap fun x => (ys x).map (g x)).length ≤ sizeLine → Q (acc ++ xs.flatMap fun x => (ys x).map (g x)) → lc2Run (wN i) wYes it1 (wN j) wYes te vs1 env (xs.map f) acc Q X
  | [], acc, Q, _, _, _, h => by rw [List.flatMap_nil, List.append_nil] at h; exact h
  | x :: xs, acc, Q, h1, h2, hl, h => by
    show it1 (env.set i (.dt (f x))) (fun es => lc2In (wN j) wYes te (wipeE (env.set i (.dt (f x))) vs1) es acc (fun acc' => lc2Run (wN i) wYes it1 (wN j) wYes te vs1 env (xs.map f) acc' Q X) X) X
    refine h1 x List.mem_cons_self _ ?_
    rw [List.flatMap_cons, List.length_append, List.length_map] at hl
    refine lc2_in (h2 x List.mem_cons_self) (by omega) ?_
    refine lc2_N (fun z hz => h1 z (List.mem_cons_of_mem _ hz)) (fun z hz => h2 z (List.mem_cons_of_mem _ hz)) ?_ ?_
    · rw [List.length_append, List.length_map]; omega
    · rw [List.flatMap_cons, ← List.append_assoc] at h; exact h
theorem allD_map {xs : List α} {p : α → Bool} {Q : PD} (h : Q (.bl (xs.all p))) : allD [.lst (xs.map fun x => .bl (p x))] Q := ⟨xs.map p, by rw [List.map_map]; rfl, by rw [List.all_map]; exact h⟩
theorem anyD_map {xs : List α} {p : α → Bool} {Q : PD} (h : Q (.bl (xs.any p))) : anyD [.lst (xs.map fun x => .bl (p x))] Q := ⟨xs.map p, by rw [List.map_map]; rfl, by rw [List.any_map]; exact h⟩
/-! ### what may be compared -/
mutual
def layD : D → Bool
  | .non | .bl _ | .int _ => true
  | .str s => s.all fun c => decide (c < 1114112)
  | .tup ds => layDs ds
  | .lst ds => layDs ds
  | .dct _ _ => false
  | .vr _ => false
def layDs : List D → Bool
  | [] => true
  | d :: ds => layD d && layDs ds
end
mutual
def dpD : D → Nat
  | .tup ds => dpDs ds + 1
  | .lst ds => dpDs ds + 1
  | _ => 0
def dpDs : List D → Nat
  | [] => 0
  | d :: ds => max (dpD d) (dpDs ds)
end
mutual
theorem lay_flat : ∀ d : D, layD d = true → flatOk d = true ∧ PyData.canLay0 (pyOf d) = true ∧ PyData.depth (pyOf d) = dpD d
  | .non, _ => ⟨rfl, rfl, rfl⟩
  | .bl _, _ => ⟨rfl, rfl, rfl⟩
  | .int _, _ => ⟨rfl, rfl, rfl⟩
  | .str s, h => ⟨rfl, by
      unfold pyOf PyData.canLay0
      unfold layD at h
      simpa [PyData.strOk, zs] using h, rfl⟩
  | .tup ds, h => by
    unfold layD at h
    obtain ⟨a, b, c⟩ := lay_flats ds h
    unfold flatOk pyOf PyData.canLay0 PyData.depth dpD
    exact ⟨a, b, by rw [c]⟩
  | .lst ds, h => by
    unfold layD at h
    obtain ⟨a, b, c⟩ := lay_flats ds h
    unfold flatOk pyOf PyData.canLay0 PyData.depth dpD
    exact ⟨a, b, by rw [c]⟩
  | .dct _ _, h => by unfold layD at h; cases h
  | .vr _, h => by unfold layD at h; cases h
theorem lay_flats : ∀ ds : List D, layDs ds = true → flatOks ds = true ∧ PyData.canLayAll0 (pyOfs ds) = true ∧ PyData.depthAll (pyOfs ds) = dpDs ds
  | [], _ => ⟨rfl, rfl, rfl⟩
  | d :: ds, h => by
    unfold layDs at h
    rw [Bool.and_eq_true] at h
    obtain ⟨a, b, c⟩ := lay_flat d h.1
    obtain ⟨a', b', c'⟩ := lay_flats ds h.2
    unfold flatOks pyOfs PyData.canLayAll0 PyData.depthAll dpDs
    exact ⟨by rw [a, a']; rfl, by rw [b, b']; rfl, by rw [c, c']⟩
end
theorem okD_of {d : D} (h : layD d = true) (h2 : dpD d ≤ 64) : okD d = true := by
  obtain ⟨a, b, c⟩ := lay_flat d h
  unfold okD SeqAt.shaped
  rw [a, b, c]
  simpa using h2
theorem layDs_map {f : α → D} (xs : List α) (h : ∀ x ∈ xs, layD (f x) = true) : layDs (xs.map f) = true := by
  induction xs with
  | nil => rfl
  | cons x xs ih =>
    rw [List.map_cons]
    unfold layDs
    rw [h x List.mem_cons_self, ih fun y hy => h y (List.mem_cons_of_mem _ hy)]
    rfl
theorem dpDs_map {f : α → D} {n : Nat} (xs : List α) (h : ∀ x ∈ xs, dpD (f x) ≤ n) : dpDs (xs.map f) ≤ n := by
  induction xs with
  | nil => exact Nat.zero_le _
  | cons x xs ih =>
    rw [List.map_cons]
    unfold dpDs
    exact Nat.max_le.mpr ⟨h x List.mem_cons_self, ih fun y hy => h y (List.mem_cons_of_mem _ hy)⟩
theorem ok_int {i : Int} : okD (.int i) = true := rfl
theorem ok_bl {i : Bool} : okD (.bl i) = true := rfl
theorem ok_non : okD .non = true := rfl
/-- signs that a text may hold -/
def okS (s : List Nat) : Prop := ∀ c ∈ s, c < 1114112
theorem lay_str {s : List Nat} (h : okS s) : layD (.str s) = true := by
  unfold layD
  rw [List.all_eq_true]
  exact fun c hc => decide_eq_true (h c hc)
theorem ok_str {s : List Nat} (h : okS s) : okD (.str s) = true := okD_of (lay_str h) (Nat.zero_le _)
theorem ok_strs {xs : List (List Nat)} (h : ∀ s ∈ xs, okS s) : okD (.lst (xs.map D.str)) = true :=
  okD_of (by unfold layD; exact layDs_map xs fun s hs => lay_str (h s hs)) (by unfold dpD; have := dpDs_map (f := D.str) (n := 0) xs (fun _ _ => Nat.le_refl _); omega)
theorem ok_ints {xs : List Int} : okD (.lst (xs.map D.int)) = true :=
  okD_of (by unfold layD; exact layDs_map xs fun s _ => rfl) (by unfold dpD; have := dpDs_map (f := D.int) (n := 0) xs (fun _ _ => Nat.le_refl _); omega)
theorem ok_tints {xs : List Int} : okD (.tup (xs.map D.int)) = true :=
  okD_of (by unfold layD; exact layDs_map xs fun s _ => rfl) (by unfold dpD; have := dpDs_map (f := D.int) (n := 0) xs (fun _ _ => Nat.le_refl _); omega)
def eqDs (xs ys : List D) : Bool := PyData.eqvAll (pyOfs xs) (pyOfs ys)
theorem eqDs_nil : eqDs [] [] = true := rfl
theorem eqDs_cons {x y : D} {xs ys : List D} : eqDs (x :: xs) (y :: ys) = (eqD x y && eqDs xs ys) := rfl
theorem eqD_lst {xs ys : List D} : eqD (.lst xs) (.lst ys) = eqDs xs ys := rfl
theorem eqD_tup {xs ys : List D} : eqD (.tup xs) (.tup ys) = eqDs xs ys := rfl
theorem eqD_int {i j : Int} : eqD (.int i) (.int j) = decide (i = j) := by
  show (i == j) = decide (i = j)
  rw [Bool.eq_iff_iff]; simp
theorem eqD_bl {i j : Bool} : eqD (.bl i) (.bl j) = (i == j) := rfl
theorem eqD_non : eqD .non .non = true := rfl
theorem eqD_ns {s : List Nat} : eqD .non (.str s) = false := rfl
theorem eqD_sn {s : List Nat} : eqD (.str s) .non = false := rfl
theorem eqD_str {s t : List Nat} : eqD (.str s) (.str t) = decide (s = t) := by
  show (zs s == zs t) = decide (s = t)
  rw [Bool.eq_iff_iff, beq_iff_eq, decide_eq_true_iff, zs_inj]
theorem eqDs_map {f : α → D} (h : ∀ a b, eqD (f a) (f b) = true ↔ a = b) : ∀ xs ys : List α, eqDs (xs.map f) (ys.map f) = true ↔ xs = ys
  | [], [] => by simp [eqDs_nil]
  | [], y :: ys => by
    simp only [List.map_nil, List.map_cons]
    exact ⟨(fun z => Bool.noConfusion (show false = true from z)), (fun z => by cases z)⟩
  | x :: xs, [] => by
    simp only [List.map_nil, List.map_cons]
    exact ⟨(fun z => Bool.noConfusion (show false = true from z)), (fun z => by cases z)⟩
  | x :: xs, y :: ys => by
    rw [List.map_cons, List.map_cons, eqDs_cons, Bool.and_eq_true, h x y, eqDs_map h xs ys, List.cons.injEq]
theorem eqD_strs {xs ys : List (List Nat)} : eqD (.lst (xs.map D.str)) (.lst (ys.map D.str)) = true ↔ xs = ys := eqDs_map (fun a b => by rw [eqD_str, decide_eq_true_iff]) xs ys
theorem eqD_ints {xs ys : List Int} : eqD (.lst (xs.map D.int)) (.lst (ys.map D.int)) = true ↔ xs = ys := eqDs_map (fun a b => by rw [eqD_int, decide_eq_true_iff]) xs ys
theorem eqD_tints {xs ys : List Int} : eqD (.tup (xs.map D.int)) (.tup (ys.map D.int)) = true ↔ xs = ys := eqDs_map (fun a b => by rw [eqD_int, decide_eq_true_iff]) xs ys
mutual
theorem eqD_refl : ∀ d : D, layD d = true → eqD d d = true
  | .non, _ => rfl
  | .bl b, _ => by cases b <;> rfl
  | .int i, _ => by rw [eqD_int]; simp
  | .str s, _ => by rw [eqD_str]; simp
  | .tup ds, h => by unfold layD at h; rw [eqD_tup]; exact eqDs_refl ds h
  | .lst ds, h => by unfold layD at h; rw [eqD_lst]; exact eqDs_refl ds h
  | .dct _ _, h => by unfold layD at h; cases h
  | .vr _, h => by unfold layD at h; cases h
theorem eqDs_refl : ∀ ds : List D, layDs ds = true → eqDs ds ds = true
  | [], _ => rfl
  | d :: ds, h => by
    unfold layDs at h
    rw [Bool.and_eq_true] at h
    rw [eqDs_cons, eqD_refl d h.1, eqDs_refl ds h.2]
    rfl
end
theorem vrS {s : List Nat} : isVr (.str s) = false := rfl
theorem vrI {s : Int} : isVr (.int s) = false := rfl
theorem vrB {s : Bool} : isVr (.bl s) = false := rfl
theorem vrN : isVr .non = false := rfl
theorem vrT {s : List D} : isVr (.tup s) = false := rfl
theorem vrL {s : List D} : isVr (.lst s) = false := rfl
theorem vrD {k : List Key} {s : List D} : isVr (.dct k s) = false := rfl
theorem vrV {v : V} : isVr (.vr v) = true := rfl
theorem ite_monoP {c : Prop} [Decidable c] {A B A' B' : Prop} (h1 : A → A') (h2 : B → B') (h : if c then A else B) : if c then A' else B' := by
  split at h <;> rename_i e
  · rw [if_pos e]; exact h1 h
  · rw [if_neg e]; exact h2 h
theorem rangeD_nat (n : Nat) : rangeD 0 (n : Int) = (List.range' 0 n).map fun i : Nat => D.int (i : Int) := by
  unfold rangeD
  rw [show ((n : Int) - 0).toNat = n by omega, List.range_eq_range']
  exact List.map_congr_left fun i _ => by rw [Int.zero_add]
theorem sIx_i {n d : Nat} {i : Int} (h : 0 ≤ i) : HT.sIx n d (some i) = min i.toNat n := by
  obtain ⟨j, rfl⟩ := Int.eq_ofNat_of_zero_le h
  rw [Int.toNat_natCast]
  exact HT.sIx_nat n d j
theorem cutD_int {α : Type} {xs : List α} {lo hi : Int} (h0 : 0 ≤ lo) (h1 : lo ≤ hi) : cutD xs (some lo) (some hi) = (xs.drop lo.toNat).take (hi - lo).toNat := by
  unfold cutD
  rw [sIx_i h0, sIx_i (by omega)]
  by_cases e : lo.toNat ≤ xs.length
  · rw [Nat.min_eq_left e]
    by_cases e2 : hi.toNat ≤ xs.length
    · rw [Nat.min_eq_left e2]
      congr 1
      omega
    · rw [Nat.min_eq_right (by omega), List.take_of_length_le (by rw [List.length_drop]; omega), List.take_of_length_le (by rw [List.length_drop]; omega)]
  · rw [Nat.min_eq_right (by omega), Nat.min_eq_right (by omega), List.drop_of_length_le (Nat.le_refl _), List.drop_of_length_le (by omega), List.take_nil, List.take_nil]
theorem cutD_from {α : Type} {xs : List α} {lo : Int} (h0 : 0 ≤ lo) : cutD xs (some lo) none = xs.drop lo.toNat := by
  unfold cutD
  rw [sIx_i h0, HT.sIx_none]
  by_cases e : lo.toNat ≤ xs.length
  · rw [Nat.min_eq_left e, List.take_of_length_le (by rw [List.length_drop]; exact Nat.le_refl _)]
  · rw [Nat.min_eq_right (by omega), List.drop_of_length_le (Nat.le_refl _), List.drop_of_length_le (by omega), List.take_nil]
theorem cutD_to {α : Type} {xs : List α} {hi : Int} (h0 : 0 ≤ hi) : cutD xs none (some hi) = xs.take hi.toNat := by
  unfold cutD
  rw [sIx_i h0, HT.sIx_none]
  by_cases e : hi.toNat ≤ xs.length
  · rw [Nat.min_eq_left e]; rfl
  · rw [Nat.min_eq_right (by omega), List.take_of_length_le (by rw [List.length_drop]; exact Nat.le_refl _), List.take_of_length_le (show xs.length ≤ hi.toNat by omega)]
    rfl
theorem rangeD_z {n : Int} : rangeD 0 n = (List.range n.toNat).map fun i : Nat => D.int (i : Int) := by
  unfold rangeD
  rw [Int.sub_zero]
  exact List.map_congr_left fun i _ => by rw [Int.zero_add]
theorem tos_len (s : List Nat) : (s.map fun c => D.str [c]).length = s.length := List.length_map _
theorem zipD_str {s t : List Nat} : zipD (s.map fun c => D.str [c]) (t.map fun c => D.str [c]) = (s.zip t).map fun p => D.tup [.str [p.1], .str [p.2]] := by
  unfold zipD
  rw [List.zip_map, List.map_map]
  rfl
theorem joinD_nil : ∀ ps : List (List Nat), joinD [] ps = ps.flatten
  | [] => rfl
  | [p] => by simp [joinD]
  | p :: q :: r => by
    have := joinD_nil (q :: r)
    simp [joinD] at this ⊢
    exact this
theorem gJoin_nil {α : Type} {f : α → List Nat} {xs : List α} {Q : PD} (h : ((xs.map f).map (·.length)).sum ≤ 16777216) (q : Q (.str (xs.map f).flatten)) : gJoin (.str []) [.lst (xs.map fun x => D.str (f x))] Q := by
  refine ⟨[], xs.map f, rfl, .inl (by rw [List.map_map]; rfl), by simpa using h, ?_⟩
  rw [joinD_nil]
  exact q
theorem flat1 {α : Type} {f : α → Nat} : ∀ xs : List α, (xs.map fun x => [f x]).flatten = xs.map f
  | [] => rfl
  | x :: xs => by rw [List.map_cons, List.flatten_cons, flat1 xs]; rfl
theorem gJoin_1 {α : Type} {f : α → Nat} {xs : List α} {Q : PD} (h : xs.length ≤ 16777216) (q : Q (.str (xs.map f))) : gJoin (.str []) [.lst (xs.map fun x => D.str [f x])] Q := by
  refine gJoin_nil (f := fun x => [f x]) ?_ ?_
  · rw [List.map_map]
    have : ∀ l : List α, (l.map ((fun x => x.length) ∘ fun x => [f x])).sum = l.length := fun l => by
      induction l with
      | nil => rfl
      | cons a l ih => rw [List.map_cons, List.sum_cons, ih, List.length_cons]; show 1 + _ = _; omega
    rw [this]; exact h
  · rw [flat1]; exact q
theorem itePos {c : Prop} [Decidable c] {A B : Prop} (h : c) (a : A) : if c then A else B := by rw [if_pos h]; exact a
theorem iteNeg {c : Prop} [Decidable c] {A B : Prop} (h : ¬ c) (b : B) : if c then A else B := by rw [if_neg h]; exact b
theorem gt2 {i j : Nat} {env : Env1} {a b : D} {Q : Env1 → Prop} : wGTup 2 (wGCons (wN i) (wGCons (wN j) wGNil)) env (.tup [a, b]) Q = Q ((env.set i (.dt a)).set j (.dt b)) :=
  propext ⟨fun ⟨ds, e, _, d, r, e2, d', r', e3, e4, h⟩ => by cases e; cases e2; cases e3; exact h, fun h => ⟨_, rfl, rfl, _, _, rfl, _, _, rfl, rfl, h⟩⟩
/-! ### growing readings -/
theorem ms_seq {f g : WS} (hf : MonoS f) (hg : MonoS g) : MonoS (wSeq f g) := fun env D D' X z w => hf _ { D with nx := fun e => g e D X } { D' with nx := fun e => g e D' X } _ ⟨fun e h => hg _ _ _ _ z h, z.rt, z.bk, z.ct⟩ w
theorem ms_asg {i : Nat} {f : WE} (hf : Mono f) : MonoS (wAsg (wN i) f) := fun env D D' X z w => hf _ _ _ _ (fun d h => z.nx _ h) w
theorem ms_if {c : WT} {f g : WS} (hc : Mono c) (hf : MonoS f) (hg : MonoS g) : MonoS (wIf c f g) := fun env D D' X z w => hc _ _ _ _ (fun b => ite_mono (hf _ _ _ _ z) (hg _ _ _ _ z)) w
theorem ms_next : MonoS wNext := fun env D D' X z w => z.nx _ w
theorem mo_var {i : Nat} : Mono (wVar i) := fun env Q Q' X z ⟨d, e, w⟩ => ⟨d, e, z _ w⟩
theorem mo_c {d : D} : Mono (wC d) := fun env Q Q' X z w => z _ w
theorem mo_nil : Mono wNil := fun env Q Q' X z w => z _ w
theorem mo_cons {f : WE} {g : WL} (hf : Mono f) (hg : Mono g) : Mono (wCons f g) := fun env Q Q' X z w => hf _ _ _ _ (fun d h => hg _ _ _ _ (fun ds h => z _ h) h) w
theorem mo_lst {g : WL} (hg : Mono g) : Mono (wLst g) := fun env Q Q' X z w => hg _ _ _ _ (fun ds h => ⟨h.1, z _ h.2⟩) w
theorem mo_tup {g : WL} (hg : Mono g) : Mono (wTup g) := fun env Q Q' X z w => hg _ _ _ _ (fun ds h => ⟨h.1, z _ h.2⟩) w
theorem mo_dat {g : WL} (hg : Mono g) : Mono (wDat g) := fun env Q Q' X z w => hg _ _ _ _ (fun ds h => z _ h) w
theorem mo_op2 {g : D → D → PD → Prop} {fa fb : WE} (hg : ∀ a b (Q Q' : PD), (∀ d, Q d → Q' d) → g a b Q → g a b Q') (ha : Mono fa) (hb : Mono fb) : Mono (wOp2 g fa fb) := fun env Q Q' X z w => ha _ _ _ _ (fun a h => hb _ _ _ _ (fun b h => hg _ _ _ _ z h) h) w
theorem mo_and {f g : WT} (hf : Mono f) (hg : Mono g) : Mono (wAndT f g) := fun env Q Q' X z w => hf _ _ _ _ (fun c => ite_mono (hg _ _ _ _ z) (z _)) w
theorem mo_mt {ty : D → Prop} {g : D → List D → PD → Prop} {fo : WE} {ga : WL} (hg : ∀ o ds (Q Q' : PD), (∀ d, Q d → Q' d) → g o ds Q → g o ds Q') (ho : Mono fo) (ha : Mono ga) : Mono (wMt ty g fo ga) := fun env Q Q' X z w => ho _ _ _ _ (fun o h => ⟨h.1, ha _ _ _ _ (fun ds h => hg _ _ _ _ z h) h.2⟩) w
theorem mo_call {S : SpecD} {g : WL} (hS : MonoD S) (hg : Mono g) : Mono (wCall S g) := fun env Q Q' X z w => hg _ _ _ _ (fun ds h => hS _ _ _ _ _ z (fun _ h => h) h) w
end
end DL
/-! slices with a step -/
namespace DL
open PySem PySem.Spec PyProof.Rows L2 HT
def stIx (n : Nat) (lo hi st : Option Int) : List Nat := sliceRange (sliceBounds lo hi st n).1 (sliceBounds lo hi st n).2.1 (sliceBounds lo hi st n).2.2
def pickL {α : Type} (xs : List α) (lo hi st : Option Int) : List α := (stIx xs.length lo hi st).filterMap (xs[·]?)
section
variable {W : Wd} {G0 H0 G G' H H' : Hp} {E : XK} {X : Cx} {k n : Nat} {env : Env1} {σ : L2.St}
section
variable {prog : Program} {w : World} {A : Around} {Ex0 : Value → Shared → Prop} {s : Shared}
theorem applied_rev {sl : Addr} {t : Tok} {n : Nat} {Q : Int × Int × Nat → Shared → Prop} (hs : s.heap.IsSliceOf sl .none .none (.int (-1) t)) (h : Q ((n : Int) - 1, -1, n) s) : wpAny (model prog w) A (Builtin.Slice.sliceApplied (.ref sl) (pure (n : Int))) Q Ex0 s := by
  obtain ⟨ob, e1, e2, e3⟩ := hs
  unfold Builtin.Slice.sliceApplied Builtin.Slice.sliceFields
  refine wpAny_bind (wpAny_bind (wpAny_field e1 e3 (x := .none) rfl (wpAny_bind (wpAny_field e1 e3 (x := .none) rfl (wpAny_bind (wpAny_field e1 e3 (x := .int (-1) t) rfl (wpAny_pure ?_)))))))
  refine wpAny_bind (HT.slicePart_ (.int (-1) t) ?_)
  show wpAny _ _ (if ((-1 : Int) == 0) = true then _ else _) _ _ s
  rw [if_neg (by decide)]
  refine wpAny_bind (HT.slicePart_ .none (wpAny_bind (HT.slicePart_ .none (wpAny_bind (wpAny_pure ?_)))))
  have ea : Builtin.Slice.sliceAdjust none none (-1) (n : Int) = ((n : Int) - 1, -1) := rfl
  have ep : Builtin.Slice.slicePlaces ((n : Int) - 1) (-1) (-1) = n := by
    unfold Builtin.Slice.slicePlaces
    have h1 : ¬ ((-1 : Int) > 0) := by omega
    simp only [h1, if_false]
    by_cases h0 : n = 0
    · subst h0; rfl
    · rw [if_pos (by omega)]
      have : ((n : Int) - 1 - -1 - 1) / (- -1) = (n : Int) - 1 := by
        rw [show (- -1 : Int) = 1 from rfl, Int.ediv_one]; omega
      rw [this]; omega
  show wpAny _ _ (match Builtin.Slice.sliceAdjust none none (-1) (n : Int) with | (lo, hi) => pure (lo, (-1 : Int), Builtin.Slice.slicePlaces lo hi (-1))) _ _ s
  rw [ea]
  show wpAny _ _ (pure ((n : Int) - 1, (-1 : Int), Builtin.Slice.slicePlaces ((n : Int) - 1) (-1) (-1))) _ _ s
  rw [ep]
  exact wpAny_pure h
theorem fm_congr {α β : Type} {f g : α → Option β} : ∀ l : List α, (∀ x ∈ l, f x = g x) → l.filterMap f = l.filterMap g
  | [], _ => rfl
  | x :: l, h => by
    rw [List.filterMap_cons, List.filterMap_cons, h x List.mem_cons_self, fm_congr l fun y hy => h y (List.mem_cons_of_mem _ hy)]
theorem fm_range {α : Type} : ∀ ys : List α, ((List.range ys.length).filterMap fun k => ys[k]?) = ys
  | [] => rfl
  | y :: ys => by
    rw [List.length_cons, List.range_succ_eq_map, List.filterMap_cons, List.filterMap_map]
    show y :: (List.range ys.length).filterMap (fun k => (y :: ys)[k + 1]?) = y :: ys
    congr 1
    exact fm_range ys
theorem rev_range {α : Type} (xs : List α) : ((List.range xs.length).filterMap fun (k : Nat) => xs[((xs.length : Int) - 1 + (k : Int) * -1).toNat]?) = xs.reverse := by
  have h3 := fm_range xs.reverse
  rw [List.length_reverse] at h3
  rw [← h3]
  refine fm_congr _ fun k hk => ?_
  have hk' := List.mem_range.mp hk
  rw [List.getElem?_reverse hk']
  congr 1
  omega
theorem getItem_tuple_rev {t sl : Addr} {items : Array Value} {tk : Tok} {Q : Value → Shared → Prop} (ht : IsTup s.heap t items) (hs : s.heap.IsSliceOf sl .none .none (.int (-1) tk))
    (h : Q (.ref s.heap.objs.size) { s with heap := s.heap.push { cls := .type "tuple", data := .seq items.toList.reverse.toArray } }) (hsz : items.size ≤ sizeLine) : wpAny (model prog w) A (getItem (.ref t) (.ref sl)) Q Ex0 s := by
  have hok : sizeOk (.seq items.toList.reverse.toArray) := by
    show items.toList.reverse.toArray.size ≤ sizeLine
    rw [List.size_toArray, List.length_reverse, Array.length_toList]
    exact hsz
  obtain ⟨ob, e1, e2, e3⟩ := id hs
  have hT : s.TypeIs (.ref sl) "slice" := ⟨ob, e1, e2⟩
  unfold getItem
  try with_reducible refine wpAny_holding ?_
  first | refine wpAny_bind (wpAny_pure ?_) | skip
  refine wpAny_bind (wpAny_sequenceKey ht.typeIs (by decide) ?_)
  refine wpAny_bind (wpAny_callSpecial?_slot (name := Str.ofString "__getitem__") ht.typeIs PyProof.Rows.slot_tuple_getitem (wpAny_call_entry PyProof.Rows.slot_tuple_getitem ht.typeIs entry_tuple_getitem ?_ (args_tuple_getitem _ _)))
  show wpAny _ _ (Builtin.Tuple.tupleItemsOf (.ref t) >>= _) _ _ s
  refine wpAny_bind (tupleItemsOf_ ht (wpAny_bind (wpAny_typeOf hT ?_)))
  rw [if_pos (by decide)]
  refine wpAny_bind (applied_rev hs ?_)
  have no : ¬ ((((items.size : Int) - 1) == 0 && (-1 : Int) == 1 && items.size == items.size) = true) := by simp
  show wpAny _ _ (if (((items.size : Int) - 1) == 0 && (-1 : Int) == 1 && items.size == items.size) = true then _ else _) _ _ s
  rw [if_neg no]
  have er : ((List.range items.size).filterMap fun (k : Nat) => items[((items.size : Int) - 1 + (k : Int) * -1).toNat]?).toArray = items.toList.reverse.toArray := by
    have := rev_range items.toList
    rw [Array.length_toList] at this
    rw [← this]
    congr 1
    refine fm_congr _ fun k _ => ?_
    rw [Array.getElem?_toList]
  rw [er]
  first
    | exact wpAny_bind (m := Builtin.Tuple.tupleExact _) (wpAny_newObj_type (wpAny_pure ⟨_, rfl, wpAny_pure h⟩) hok)
    | exact wpAny_bind (m := Builtin.Tuple.tupleExact _) (wpAny_newObj_type (wpAny_bind (wpAny_pure (wpAny_pure ⟨_, rfl, wpAny_pure h⟩))) hok)
    | exact wpAny_bind (wpAny_bind (m := Builtin.Tuple.tupleExact _) (wpAny_newObj_type (wpAny_pure (wpAny_pure ⟨_, rfl, wpAny_pure h⟩)) hok))
    | exact wpAny_bind (wpAny_bind (m := Builtin.Tuple.tupleExact _) (wpAny_newObj_type (wpAny_pure ⟨_, rfl, wpAny_pure h⟩) hok))
end
theorem pick_rev {α : Type} (xs : List α) : pickL xs none none (some (-1)) = xs.reverse := by
  have e : stIx xs.length none none (some (-1)) = (List.range xs.length).map fun k : Nat => ((xs.length : Int) - 1 + (k : Int) * -1).toNat := by
    have hb : sliceBounds none none (some (-1)) xs.length = ((xs.length : Int) - 1, -1, -1) := rfl
    unfold stIx
    rw [hb]
    unfold sliceRange
    have hc : (if (-1 : Int) > 0 then (if ((xs.length : Int) - 1) < -1 then (-1 - ((xs.length : Int) - 1) + -1 - 1) / -1 else 0) else (if ((xs.length : Int) - 1) > -1 then (((xs.length : Int) - 1) - -1 - -1 - 1) / (- -1) else 0)) = (xs.length : Int) := by
      rw [if_neg (by omega)]
      by_cases h0 : xs.length = 0
      · rw [h0]; rfl
      · rw [if_pos (by omega), show (- -1 : Int) = 1 from rfl, Int.ediv_one]; omega
    show (List.range (if (-1 : Int) > 0 then (if ((xs.length : Int) - 1) < -1 then (-1 - ((xs.length : Int) - 1) + -1 - 1) / -1 else 0) else (if ((xs.length : Int) - 1) > -1 then (((xs.length : Int) - 1) - -1 - -1 - 1) / (- -1) else 0)).toNat).map _ = _
    rw [hc, Int.toNat_natCast]
    refine List.map_congr_left fun k _ => ?_
    show ((xs.length : Int) - 1 + -1 * (k : Int)).toNat = _
    congr 1
    omega
  unfold pickL
  rw [e, List.filterMap_map]
  exact rev_range xs
def tSl3 (K : PySem.W.Frag) (te : TE) (tl th ts : TO) : TE := fun σ H Q => te σ H fun x H1 => tl σ H1 fun l H2 => th σ H2 fun u H3 => ts σ H3 fun st H4 => st ≠ some 0 ∧
  (((∃ a xs, x = .ref a ∧ SqL K H4 a xs ∧ (pickL xs l u st).length ≤ sizeLine ∧ ∀ p, H4 p = none → Q (.ref p) (upd H4 p (.lst (pickL xs l u st)))) ∨
    (∃ a xs, x = .ref a ∧ SqT K H4 a xs ∧ l = none ∧ u = none ∧ st = some (-1) ∧ ∀ p, H4 p = none → Q (.ref p) (upd H4 p (.tup xs.reverse)))) ∨
    (∃ z j, x = .str (zs z) ∧ st = some j ∧ (j = 1 → (stIx z.length l u st).length = z.length → pickL z l u st = z) ∧ (pickL z l u st).length ≤ sizeLine ∧ Q (.str (zs (pickL z l u st))) H4))
theorem vals_pick {xs : List V} {us : List Value} (r : Vals xs us) : ∀ is : List Nat, Vals (is.filterMap (xs[·]?)) (is.filterMap (us[·]?))
  | [] => .nil
  | i :: is => by
    rw [List.filterMap_cons, List.filterMap_cons]
    cases h : xs[i]? with
    | none =>
      have : us[i]? = none := by
        rw [List.getElem?_eq_none_iff] at h ⊢
        rw [← r.length]; exact h
      rw [this]
      exact vals_pick r is
    | some x =>
      obtain ⟨u, hu, ru⟩ := r.get h
      rw [hu]
      exact .cons ru (vals_pick r is)
theorem vals_rev : ∀ {xs : List V} {us : List Value}, Vals xs us → Vals xs.reverse us.reverse
  | _, _, .nil => .nil
  | _, _, .cons r t => by
    rw [List.reverse_cons, List.reverse_cons]
    exact Vals.append (vals_rev t) (.cons r .nil)
theorem pe_sl3 {e st : Expr} {lo hi : Option Expr} {te : TE} {tl th ts : TO} {p2 pos : Pos} (he : PE X e te) (hl : PO X lo tl) (hh : PO X hi th) (hst : PO X (some st) ts) : PE X (.Subscript e (.Slice lo hi (some st) p2) pos) (tSl3 X.K te tl th ts) := by
  refine ⟨fun pins s σ H Q I h => ?_⟩
  refine Subscript_ (thn (he.run pins s σ H _ I h) fun v s1 ⟨x, H1, I1, r1, q1⟩ => ?_)
  refine wpAny_Slice (thn (hl.run pins s1 σ H1 _ I1 q1) fun vl s2 ⟨l, H2, I2, pl, q2⟩ => ?_)
  refine thn (hh.run pins s2 σ H2 _ I2 q2) fun vu s3 ⟨u, H3, I3, pu, q3⟩ => ?_
  refine thn (hst.run pins s3 σ H3 _ I3 q3) fun vs s4 ⟨o, H4, I4, ps, h0, q4⟩ => ?_
  have I5 : Inv X pins σ H4 { s4 with heap := s4.heap.push { cls := .type "slice", data := .fields #[vl, vu, vs] } } := I4.kept (t' := s4.toks) fun b ob q => Heap.get?_push_of_some _ q
  rcases q4 with (⟨a, xs, ex, hx, hz', q⟩ | ⟨a, xs, ex, hx, el, eu, es, q⟩) | ⟨z, j, ex, ej, hj, hz', q⟩
  · subst ex
    cases r1
    obtain ⟨its, r, ht, hz⟩ := I5.list hx
    have hlen := r.length
    show wpAny (model X.prog X.w) X.A (subscriptTail e (.Slice lo hi (some st) p2) (.ref a) (.ref s4.heap.objs.size)) (EP X pins σ Q) X.xe { s4 with heap := s4.heap.push { cls := .type "slice", data := .fields #[vl, vu, vs] } }
    refine tail_any (ops := [.ref a, .ref s4.heap.objs.size]) ht.isList.typeIs (PySem.slot_list_getitem.lookup) ?_ (by with_unfolding_all rfl)
    refine wpAny_getItem_list_slice ht.isList (Heap.IsSliceOf.new _ vl vu vs) pl pu ps h0 ?_ (by rw [List.size_toArray]; omega)
    have e1 : slicePick its.toArray l u o = ((stIx xs.length l u o).filterMap (its[·]?)).toArray := by
      unfold slicePick stIx
      rw [List.size_toArray, hlen]
      simp
    rw [e1]
    refine ⟨.ref _, _, I5.laid (t' := s4.toks) (o := .lst (pickL xs l u o)) (fun b ob q => Heap.get?_push_of_some _ q) (Nat.le_refl _) ?_, rfl, q _ (I5.hok.fresh (Nat.le_refl _))⟩
    exact ⟨hz', _, 0, vals_pick r _, Heap.get?_push_size _ rfl⟩
  · subst ex el eu es
    cases r1
    cases pl
    cases pu
    cases ps
    obtain ⟨its, r, ht, hz⟩ := I5.tuple hx
    have hlen := r.length
    refine tail_any (ops := [.ref a, .ref s4.heap.objs.size]) ht.typeIs (PyProof.Rows.slot_tuple_getitem.lookup) ?_ (by with_unfolding_all rfl)
    refine getItem_tuple_rev ht (Heap.IsSliceOf.new _ _ _ _) ?_ (by rw [List.size_toArray]; omega)
    refine ⟨.ref _, _, I5.laid (t' := s4.toks) (o := .tup xs.reverse) (fun b ob q => Heap.get?_push_of_some _ q) (Nat.le_refl _) ?_, rfl, q _ (I5.hok.fresh (Nat.le_refl _))⟩
    have hl2 : (s4.heap.push { cls := .type "slice", data := .fields #[.none, .none, .int (-1) ‹Tok›] }).objs.size = s4.heap.objs.size + 1 := Heap.size_push ..
    exact ⟨by rw [List.length_reverse]; exact hz, its.reverse, vals_rev r, IsTup.new _ _⟩
  · subst ex ej
    obtain ⟨t, rfl⟩ := r1
    obtain ⟨l', rfl, rfl⟩ := IsPart.raw pl
    obtain ⟨u', rfl, rfl⟩ := IsPart.raw pu
    obtain ⟨o', rfl, eo⟩ := IsPart.raw ps
    show wpAny (model X.prog X.w) X.A (subscriptTail e (.Slice lo hi (some st) p2) (.str (zs z) t) (.ref s4.heap.objs.size)) (EP X pins σ Q) X.xe _
    refine tail_any (ops := [.str (zs z) t, .ref s4.heap.objs.size]) (PySem.typeIs_str _ _ _) (PySem.F.slot_str_getitem.lookup) ?_ (by with_unfolding_all rfl)
    have hj0 : j ≠ 0 := fun e => h0 (by rw [e])
    refine wpAny_getItem_str_slice (l := l') (u := u') (st := o') ⟨_, Heap.get?_push_size _ rfl, rfl, rfl⟩ (by rw [eo]; simpa using hj0) ?_
    have e2 : ((slicePicked (zs z) l' u' o').filterMap ((zs z).cps[·]?)) = pickL z (l'.map (·.1)) (u'.map (·.1)) (some j) := by
      unfold slicePicked pickL stIx sliceBounds Builtin.Str.strSliceIndices
      rw [eo, zs_len]
      have ef : (fun i : Nat => (zs z).cps[i]?) = fun i : Nat => z[i]? := by funext i; simp [zs]
      rw [ef]
      rfl
    unfold sliceMade
    rw [e2, eo]
    by_cases hne : (((some j).getD 1 == 1 && (slicePicked (zs z) l' u' o').length == (zs z).length) = true)
    · rw [if_pos hne]
      have h2 : j = 1 ∧ (slicePicked (zs z) l' u' o').length = (zs z).length := by simpa using hne
      have e3 : pickL z (l'.map (·.1)) (u'.map (·.1)) (some j) = z := hj h2.1 (by
        have := h2.2
        unfold slicePicked Builtin.Str.strSliceIndices at this
        rw [eo, zs_len] at this
        exact this)
      rw [e3] at q
      exact ⟨.str _, H4, I5.tok _, ⟨_, rfl⟩, q⟩
    · rw [if_neg hne]
      refine ⟨?_, .str _, H4, I5.tok _, ⟨_, rfl⟩, q⟩
      show (zs _).length ≤ sizeLine
      rw [zs_len]
      exact hz'
def sl3D : D → Option Int → Option Int → Option Int → PD → Prop
  | .lst ds, lo, hi, st, Q => (pickL ds lo hi st).length ≤ sizeLine ∧ Q (.lst (pickL ds lo hi st))
  | .tup ds, lo, hi, st, Q => lo = none ∧ hi = none ∧ st = some (-1) ∧ Q (.tup ds.reverse)
  | .str s, lo, hi, st, Q => (st = some 1 → (stIx s.length lo hi st).length = s.length → pickL s lo hi st = s) ∧ st ≠ none ∧ (pickL s lo hi st).length ≤ sizeLine ∧ Q (.str (pickL s lo hi st))
  | _, _, _, _, _ => False
theorem sl3D_mono {d : D} {lo hi st : Option Int} {Q Q' : PD} (z : ∀ d, Q d → Q' d) (h : sl3D d lo hi st Q) : sl3D d lo hi st Q' := by
  unfold sl3D at h ⊢
  split at h
  · exact ⟨h.1, z _ h.2⟩
  · exact ⟨h.1, h.2.1, h.2.2.1, z _ h.2.2.2⟩
  · exact ⟨h.1, h.2.1, h.2.2.1, z _ h.2.2.2⟩
  · exact h
def wSl3 (fa : WE) (lo hi st : WO) : WE := fun env Q Y => fa env (fun a => lo env (fun l => hi env (fun u => st env (fun s => s ≠ some 0 ∧ sl3D a l u s Q) Y) Y) Y) Y
theorem pick_rep {K : PySem.W.Frag} {ds : List D} {xs : List V} (r : reps K G ds xs) : ∀ is : List Nat, reps K G (is.filterMap (ds[·]?)) (is.filterMap (xs[·]?))
  | [] => .nil
  | i :: is => by
    rw [List.filterMap_cons, List.filterMap_cons]
    cases h : ds[i]? with
    | none =>
      have : xs[i]? = none := by
        rw [List.getElem?_eq_none_iff] at h ⊢
        rw [r.length]; exact h
      rw [this]
      exact pick_rep r is
    | some x =>
      obtain ⟨u, hu, ru⟩ := r.get h
      rw [hu]
      exact .cons ru (pick_rep r is)
theorem de_sl3 {a st : Expr} {lo hi : Option Expr} {fa : WE} {fl fh fs : WO} {p2 pos : Pos} (B : DB0 W X) (ha : DE W G0 H0 E X a fa) (hl : DO W G0 H0 E X lo fl) (hh : DO W G0 H0 E X hi fh) (hs : DO W G0 H0 E X (some st) fs) : DE W G0 H0 E X (.Subscript a (.Slice lo hi (some st) p2) pos) (wSl3 fa fl fh fs) := by
  obtain ⟨ma, ta, pa, qa⟩ := ha
  obtain ⟨ml, tl, pl, ql⟩ := hl
  obtain ⟨mh, th, ph, qh⟩ := hh
  obtain ⟨ms, ts, ps, qs⟩ := hs
  refine ⟨fun env Q Q' Y z w => ma _ _ _ _ (fun d w => ml _ _ _ _ (fun l w => mh _ _ _ _ (fun u w => ms _ _ _ _ (fun s w => ⟨w.1, sl3D_mono z w.2⟩) w) w) w) w, _, pe_sl3 pa pl ph ps, fun env σ G H Q r w => ?_⟩
  refine qa env σ G H _ r (ma _ _ _ _ (fun d w => ?_) w)
  intro v G1 H1 s1 rv
  refine ql env σ G1 H1 _ (r.step s1) (ml _ _ _ _ (fun l w => ?_) w)
  intro G2 H2 s2
  refine qh env σ G2 H2 _ ((r.step s1).step s2) (mh _ _ _ _ (fun u w => ?_) w)
  intro G3 H3 s3
  refine qs env σ G3 H3 _ (((r.step s1).step s2).step s3) (ms _ _ _ _ (fun st w => ?_) w)
  intro G4 H4 s4
  have s24 := (s2.trans s3).trans s4
  have s14 := s1.trans s24
  obtain ⟨h0, w⟩ := w
  refine ⟨h0, ?_⟩
  have rv4 := rep_mono s24.le _ _ rv
  cases d with
  | lst ds =>
    obtain ⟨a, xs, rfl, ea, rx⟩ := rep_lst rv4
    have e1 : pickL xs l u st = (stIx ds.length l u st).filterMap (xs[·]?) := by unfold pickL; rw [rx.length]
    have rp : reps W.K G4 (pickL ds l u st) (pickL xs l u st) := by rw [e1]; exact pick_rep rx _
    refine .inl (.inl ⟨a, xs, rfl, SqL.at (s14.gok.le _ _ ea), by rw [rp.length]; exact w.1, fun p hp => ?_⟩)
    have sa : Gst W G4 H4 (upd G4 p (.lst (pickL xs l u st))) (upd H4 p (.lst (pickL xs l u st))) := Gst.alloc s14.gok _ hp
    refine w.2 (.ref p) _ _ (s14.trans sa) ?_
    unfold rep
    exact ⟨p, _, rfl, upd_same, reps_mono sa.le _ _ rp⟩
  | tup ds =>
    obtain ⟨a, xs, rfl, ea, rx⟩ := rep_tup rv4
    obtain ⟨el, eu, es, w⟩ := w
    exact .inl (.inr ⟨a, xs, rfl, by rw [B.hK]; exact Same.sqT s14.gok.le ea, el, eu, es, QE.tup s14.gok rx.rev (QE.step s14 w)⟩)
  | str s =>
    have := rep_str rv4
    subst this
    obtain ⟨h1, h2, h3, h4⟩ := w
    cases st with
    | none => exact (h2 rfl).elim
    | some j => exact .inr ⟨s, j, rfl, rfl, fun e => h1 (by rw [e]), h3, h4 _ G4 H4 s14 rep_str'⟩
  | _ => exact w.elim
end
end DL
/-! range with a step; reversed -/
namespace DL
open PySem PySem.Spec PyProof.Rows L2 RT
section
variable {W : Wd} {G0 H0 G G' H H' : Hp} {E : XK} {X : Cx} {k n : Nat} {env : Env1} {σ : L2.St}
theorem Itok.rangeC {lo c : Int} {n : Nat} : Itok W (Itc lo c n) G ((List.range n).map fun i : Nat => D.int (lo + (i : Nat) * c)) where
  go := fun G' H' i d g _ e => by
    have := (List.getElem?_eq_some_iff.mp e).1
    show i < n
    simpa using this
  yld := fun G' H' i d x H'' g _ e h => by
    obtain ⟨rfl, rfl⟩ := h
    refine ⟨G', .refl g, ?_⟩
    have hi : i < n := by simpa using (List.getElem?_eq_some_iff.mp e).1
    rw [List.getElem?_map, List.getElem?_range hi] at e
    cases e
    exact rep_int'
  stop := fun G' H' i g _ e => by
    show n ≤ i
    simpa using e
def wRange3 (f g h : WE) : WL := fun env Q Y => f env (fun d => g env (fun d' => h env (fun d'' => ∃ (i j c : Int) (n : Nat), d = .int i ∧ d' = .int j ∧ d'' = .int c ∧ RgC i j c n ∧ Q ((List.range n).map fun t : Nat => D.int (i + (t : Nat) * c))) Y) Y) Y
theorem di_range3 {tg a b c : Expr} {f g h : WE} {p pos : Pos} (hg : Gl X "range") (hm : X.mg "range" = none) (ha : DE W G0 H0 E X a f) (hb : DE W G0 H0 E X b g) (hc : DE W G0 H0 E X c h)
    (hp : ∀ t, PA X [a, b, c] t → PI X tg (.Call (.Name "range" p) [a, b, c] [] pos) (iRng3 t)) (hs : starEach [a, b, c] X.env = (false, eval a X.env) :: starEach [b, c] X.env := by rfl) (hs2 : starEach [b, c] X.env = (false, eval b X.env) :: starEach [c] X.env := by rfl)
    (hs3 : starEach [c] X.env = (false, eval c X.env) :: starEach [] X.env := by rfl) (fs : ∀ x, foldedSetIterable (.Call (.Name "range" p) [a, b, c] [] pos) X.env x = pure x := by intro _; rfl) :
    DI W G0 H0 E X tg (.Call (.Name "range" p) [a, b, c] [] pos) (wRange3 f g h) := by
  obtain ⟨m, t, pt, q⟩ := ha
  obtain ⟨m', t', pt', q'⟩ := hb
  obtain ⟨m'', t'', pt'', q''⟩ := hc
  refine ⟨fun env Q Q' Y z w => m _ _ _ _ (fun d w => m' _ _ _ _ (fun d' w => m'' _ _ _ _ (fun d'' ⟨i, j, c, n, e1, e2, e3, e4, w⟩ => ⟨i, j, c, n, e1, e2, e3, e4, z _ w⟩) w) w) w,
    ⟨_, hp _ (pa_cons pt (pa_cons pt' (pa_cons pt'' pa_nil hs3) hs2) hs), fun env σ G H R r w => ?_⟩, fs⟩
  refine q env σ G H _ r (m _ _ _ _ (fun d w => ?_) w)
  intro v G1 H1 s1 rp
  refine q' env σ G1 H1 _ (r.step s1) (m' _ _ _ _ (fun d' w => ?_) w)
  intro u G2 H2 s2 rp2
  refine q'' env σ G2 H2 _ ((r.step s1).step s2) (m'' _ _ _ _ (fun d'' w => ?_) w)
  intro x G3 H3 s3 rp3
  obtain ⟨i, j, c, n, rfl, rfl, rfl, hr, w⟩ := w
  exact ⟨i, j, c, n, by rw [rep_int rp, rep_int rp2, rep_int rp3], hr, w _ G3 H3 ((s1.trans s2).trans s3) .rangeC⟩
theorem Itok.rev {a : Addr} {xs : List V} {ds : List D} (hK : X.K = W.K) (hs : G a = some (.lst xs)) (r : reps W.K G ds xs) : Itok W (Itv X.K a xs.length) G ds.reverse where
  go := fun G' H' i d g s e => by
    have hi : i < ds.length := by have := (List.getElem?_eq_some_iff.mp e).1; simpa using this
    have hx : i < xs.length := by rw [r.length]; exact hi
    exact ⟨hx, xs, _, SqL.at (g.le _ _ (s _ _ hs)), List.getElem?_eq_getElem (show xs.length - 1 - i < xs.length by omega)⟩
  yld := fun G' H' i d x H'' g s e h => by
    obtain ⟨rfl, h⟩ := h
    have hi : i < ds.length := by have := (List.getElem?_eq_some_iff.mp e).1; simpa using this
    rw [List.getElem?_reverse hi] at e
    obtain ⟨y, h1, h2⟩ := r.get e
    have := h xs (SqL.at (g.le _ _ (s _ _ hs)))
    rw [r.length, h1] at this
    cases this
    exact ⟨G', .refl g, rep_mono s _ _ h2⟩
  stop := fun G' H' i g s e => by
    show xs.length ≤ i
    rw [r.length]
    simpa using e
def wRev (f : WE) : WL := fun env Q Y => f env (fun d => ∃ ds, d = .lst ds ∧ Q ds.reverse) Y
theorem di_rev {tg a : Expr} {f : WE} {p pos : Pos} (B : DB0 W X) (hp : ∀ t, PE X a t → PI X tg (.Call (.Name "reversed" p) [a] [] pos) (iRevA X.K t)) (ha : DE W G0 H0 E X a f) (fs : ∀ x, foldedSetIterable (.Call (.Name "reversed" p) [a] [] pos) X.env x = pure x := by intro _; rfl) :
    DI W G0 H0 E X tg (.Call (.Name "reversed" p) [a] [] pos) (wRev f) := by
  obtain ⟨m, t, pt, q⟩ := ha
  refine ⟨fun env Q Q' Y z w => m _ _ _ _ (fun d ⟨ds, e, w⟩ => ⟨ds, e, z _ w⟩) w, ⟨_, hp _ pt, fun env σ G H R r w => ?_⟩, fs⟩
  refine q env σ G H _ r (m _ _ _ _ (fun d w => ?_) w)
  intro v G1 H1 s1 rp
  obtain ⟨ds, rfl, w⟩ := w
  obtain ⟨a, xs, rfl, ea, rx⟩ := rep_lst rp
  exact ⟨a, xs, rfl, .inl ⟨SqL.at (s1.gok.le _ _ ea), w _ G1 H1 s1 (.rev B.hK ea rx)⟩⟩
end
end DL
/-! loops by an invariant; dicts that a frame owns; sorted; list of a text -/
namespace DL
open PySem PySem.Spec PyProof.Rows L2

/-! ### loops -/
theorem for_inv {α β γ : Type} {f : β → D} {wt : WG} {b : WS} {Y : PX} {Dn : DEn} (st : α → γ → Env1) (sb : α → β → Env1) (P : Nat → α → Prop) (xs : List β)
    (hw : ∀ a x c (Q : Env1 → Prop), c ∈ xs → Q (sb a c) → wt (st a x) (f c) Q)
    (hb : ∀ n c a (D' : DEn), xs[n]? = some c → P n a → D'.rt = Dn.rt → D'.bk = Dn.nx → (∀ a' x', P (n + 1) a' → D'.nx (st a' x') ∧ D'.ct (st a' x')) → b (sb a c) D' Y)
    (hend : ∀ a x, P xs.length a → Dn.nx (st a x)) (a0 : α) (x0 : γ) (h0 : P 0 a0) : forRun wt b (xs.map f) (st a0 x0) Dn Y := by
  have key : ∀ (m n : Nat) (a : α) (x : γ), n + m = xs.length → P n a → forRun wt b ((xs.drop n).map f) (st a x) Dn Y := by
    intro m
    induction m with
    | zero =>
      intro n a x e h
      rw [List.drop_eq_nil_of_le (by omega)]
      exact hend a x (by rw [show xs.length = n by omega]; exact h)
    | succ m ih =>
      intro n a x e h
      have hn : n < xs.length := by omega
      rw [List.drop_eq_getElem_cons hn, List.map_cons]
      refine hw a x _ _ (List.getElem_mem hn) ?_
      refine hb n _ a _ (List.getElem?_eq_getElem hn) h rfl rfl fun a' x' h' => ⟨ih (n + 1) a' x' (by omega) h', ih (n + 1) a' x' (by omega) h'⟩
  exact key xs.length 0 a0 x0 (by omega) h0
/-- no break, no continue: the state steps -/
theorem for_fold {α β γ : Type} {f : β → D} {i : Nat} {b : WS} {Y : PX} {Dn : DEn} (st : α → Sl → Env1) (g : α → β → α) (P : Nat → α → Prop) (xs : List β)
    (hs : ∀ a x d, (st a x).set i (.dt d) = st a (.dt d))
    (hb : ∀ n c a (D' : DEn), xs[n]? = some c → P n a → (P (n + 1) (g a c) ∧ ∀ q : (∀ x', D'.nx (st (g a c) x')), b (st a (.dt (f c))) D' Y))
    (a0 : α) (x0 : Sl) (h0 : P 0 a0) (hend : ∀ x, P xs.length (xs.foldl g a0) → Dn.nx (st (xs.foldl g a0) x)) : forRun (wN i) b (xs.map f) (st a0 x0) Dn Y := by
  have key : ∀ (r p : List β) (x : Sl), p ++ r = xs → P p.length (p.foldl g a0) → forRun (wN i) b (r.map f) (st (p.foldl g a0) x) Dn Y := by
    intro r
    induction r with
    | nil =>
      intro p x e h
      have e' : p = xs := by simpa using e
      subst e'
      exact hend x h
    | cons c r ih =>
      intro p x e h
      have hn : xs[p.length]? = some c := by rw [← e, List.getElem?_append_right (Nat.le_refl _), Nat.sub_self]; rfl
      rw [List.map_cons]
      show b ((st (p.foldl g a0) x).set i (.dt (f c))) _ Y
      rw [hs]
      obtain ⟨h1, h2⟩ := hb p.length c _ { Dn with nx := fun e => forRun (wN i) b (r.map f) e Dn Y, ct := fun e => forRun (wN i) b (r.map f) e Dn Y, bk := Dn.nx } hn h
      refine h2 fun x' => ?_
      have := ih (p ++ [c]) x' (by simpa using e) (by rw [List.length_append, List.foldl_append]; exact h1)
      rw [List.foldl_append] at this
      exact this
  exact key xs [] x0 rfl h0

theorem for_run {α β γ : Type} {f : β → D} {wt : WG} {b : WS} {Y : PX} {Dn : DEn} (st : α → γ → Env1) (sb : α → γ → β → Env1) (P : List β → List β → α → Prop) (xs : List β)
    (hw : ∀ a x c (Q : Env1 → Prop), Q (sb a x c) → wt (st a x) (f c) Q)
    (hb : ∀ p c r a x (D' : DEn), P p (c :: r) a → D'.rt = Dn.rt → D'.bk = Dn.nx → (∀ a' x', P (p ++ [c]) r a' → D'.nx (st a' x') ∧ D'.ct (st a' x')) → b (sb a x c) D' Y)
    (hend : ∀ p a x, P p [] a → Dn.nx (st a x)) (a0 : α) (x0 : γ) (h0 : P [] xs a0) : forRun wt b (xs.map f) (st a0 x0) Dn Y := by
  have key : ∀ (r p : List β) (a : α) (x : γ), P p r a → forRun wt b (r.map f) (st a x) Dn Y := by
    intro r
    induction r with
    | nil => intro p a x h; exact hend p a x h
    | cons c r ih =>
      intro p a x h
      rw [List.map_cons]
      exact hw a x c _ (hb p c r a x _ h rfl rfl fun a' x' h' => ⟨ih (p ++ [c]) a' x' h', ih (p ++ [c]) a' x' h'⟩)
  exact key xs [] a0 x0 h0

/-! ### dicts that a frame owns -/
def keyD : D → Option Key
  | .int i => some (.inl i)
  | .str s => some (.inr (zs s))
  | _ => none
def valD (kds : List (Key × D)) (k : Key) : Option D := (kds.find? fun p => decide (p.1 = k)).map (·.2)
def putD (kds : List (Key × D)) (k : Key) (d : D) : List (Key × D) := if (kds.any fun p => decide (p.1 = k)) = true then kds.map (fun p => if p.1 = k then (p.1, d) else p) else kds ++ [(k, d)]
abbrev odS (kds : List (Key × D)) : Sl := .od (kds.map (·.1)) (kds.map (·.2))
section
variable {W : Wd} {G0 H0 G G' H H' : Hp} {E : XK} {X : Cx} {k n : Nat} {env : Env1} {σ : L2.St}
theorem keyD_rep {K : PySem.W.Frag} {d : D} {v : V} {key : Key} (h : rep K G d v) (e : keyD d = some key) : v = kV key := by
  cases d <;> simp [keyD] at e
  · subst e; exact rep_int h
  · subst e; exact rep_str h
theorem valD_rep {K : PySem.W.Frag} {key : Key} : ∀ {kds : List (Key × D)} {kvs : List (Key × V)}, kvs.map (·.1) = kds.map (·.1) → reps K G (kds.map (·.2)) (kvs.map (·.2)) →
    (∀ d, valD kds key = some d → ∃ v, valV kvs key = some v ∧ rep K G d v) ∧ (valD kds key = none → valV kvs key = none)
  | [], [], _, _ => ⟨fun d h => (by cases h), fun _ => rfl⟩
  | [], _ :: _, e, _ => by simp at e
  | _ :: _, [], e, _ => by simp at e
  | (a, d) :: kds, (b, v) :: kvs, e, r => by
    simp only [List.map_cons, List.cons.injEq] at e
    obtain ⟨rfl, e⟩ := e
    simp only [List.map_cons] at r
    obtain ⟨x, r', e2, h1, h2⟩ := r.uncons
    cases e2
    have ih := valD_rep (key := key) e h2
    unfold valD valV at ih ⊢
    by_cases h : b = key
    · simp [h]
      exact h1
    · simp only [List.find?_cons, h, decide_false]
      exact ih
theorem putD_rep {K : PySem.W.Frag} {key : Key} {d : D} {v : V} (hd : rep K G d v) {kds : List (Key × D)} {kvs : List (Key × V)} (e : kvs.map (·.1) = kds.map (·.1)) (r : reps K G (kds.map (·.2)) (kvs.map (·.2))) :
    (putK kvs key v).map (·.1) = (putD kds key d).map (·.1) ∧ reps K G ((putD kds key d).map (·.2)) ((putK kvs key v).map (·.2)) := by
  have ea : (kvs.any fun p => decide (p.1 = key)) = kds.any fun p => decide (p.1 = key) := by
    have : ∀ l : List (Key × V), (l.any fun p => decide (p.1 = key)) = (l.map (·.1)).any fun k => decide (k = key) := fun l => by rw [List.any_map]; rfl
    have t2 : ∀ l : List (Key × D), (l.any fun p => decide (p.1 = key)) = (l.map (·.1)).any fun k => decide (k = key) := fun l => by rw [List.any_map]; rfl
    rw [this, t2, e]
  unfold putK putD
  rw [ea]
  by_cases h : (kds.any fun p => decide (p.1 = key)) = true
  · rw [if_pos h, if_pos h]
    have e1 : ∀ l : List (Key × V), (l.map fun kv => if kv.1 = key then (kv.1, v) else kv).map (·.1) = l.map (·.1) := fun l => by
      rw [List.map_map]; refine List.map_congr_left fun p _ => ?_; show (if p.1 = key then (p.1, v) else p).1 = p.1; split <;> rfl
    have e2 : ∀ l : List (Key × D), (l.map fun kv => if kv.1 = key then (kv.1, d) else kv).map (·.1) = l.map (·.1) := fun l => by
      rw [List.map_map]; refine List.map_congr_left fun p _ => ?_; show (if p.1 = key then (p.1, d) else p).1 = p.1; split <;> rfl
    refine ⟨by rw [e1, e2, e], ?_⟩
    clear ea h
    induction kds generalizing kvs with
    | nil =>
      cases kvs with
      | nil => exact .nil
      | cons p l => simp at e
    | cons q kds ih =>
      cases kvs with
      | nil => simp at e
      | cons p l =>
        obtain ⟨a, d'⟩ := q
        obtain ⟨b, v'⟩ := p
        simp only [List.map_cons, List.cons.injEq] at e
        obtain ⟨rfl, e⟩ := e
        simp only [List.map_cons] at r
        obtain ⟨x, r', e3, h1, h2⟩ := r.uncons
        cases e3
        simp only [List.map_cons]
        by_cases hb : b = key
        · rw [if_pos hb, if_pos hb]; exact .cons hd (ih e h2)
        · rw [if_neg hb, if_neg hb]; exact .cons h1 (ih e h2)
  · rw [if_neg h, if_neg h]
    refine ⟨by rw [List.map_append, List.map_append, e]; rfl, ?_⟩
    rw [List.map_append, List.map_append]
    exact r.append (.cons hd .nil)
/-- name = {} -/
def wDNew (i : Nat) : WS := fun env D _ => D.nx (env.set i (odS []))
theorem ds_dnew {i : Nat} {x : Str} {pos pos' dp : Pos} (hp : ∀ te, PE X (.Dict [] [] dp) te → PS X (.Assign [.Name x pos'] (.Dict [] [] dp) pos) (tAsg te (gName i))) : DS W G0 H0 E X (.Assign [.Name x pos'] (.Dict [] [] dp) pos) (wDNew i) := by
  refine ⟨fun env D D' X z w => z.nx _ w, _, hp _ pe_dnewK, fun env σ G H Dv r w => ?_⟩
  intro p hq
  refine w _ G _ (Same.refl _) ((r.step (Gst.hid r.gok _ hq)).set_od upd_same (r.gok.nn hq) (r.st.frn hq) rfl .nil fun j ks' es _ ej z => ?_)
  obtain ⟨p', kvs, h1, h2, _⟩ := r.od j ks' es ej
  rw [h1] at z
  cases z
  rw [hq] at h2; cases h2
/-- own[k] = e -/
def wDPut (i : Nat) (fk fv : WE) : WS := fun env D Y => fv env (fun d => ∃ kds, env[i]? = some (odS kds) ∧ fk env (fun j => ∃ key, keyD j = some key ∧ kds.length < sizeLine ∧ D.nx (env.set i (odS (putD kds key d)))) Y) Y
theorem ds_dput {i : Nat} {x : Str} {e ke : Expr} {fk fv : WE} {p sp pos : Pos} (B : DB0 W X) (hx : PE X (.Name x p) (tVar i)) (hk : DE W G0 H0 E X ke fk) (he : DE W G0 H0 E X e fv)
    (hs : swapsWith e (some (.Subscript (.Name x p) ke sp)) pos.line X.env = pure false := by rfl) : DS W G0 H0 E X (.Assign [.Subscript (.Name x p) ke sp] e pos) (wDPut i fk fv) := by
  obtain ⟨m, t, pt, q⟩ := he
  obtain ⟨mk, tk, pk, qk⟩ := hk
  refine ⟨fun env D D' Y z w => m _ _ _ _ (fun d ⟨kds, a, w⟩ => ⟨kds, a, mk _ _ _ _ (fun j ⟨key, b, c, w⟩ => ⟨key, b, c, z.nx _ w⟩) w⟩) w, _, ps_dput (by have := B.un; omega) hx pk pt hs, fun env σ G H Dv r w => ?_⟩
  refine q env σ G H _ r (m _ _ _ _ (fun d w => ?_) w)
  obtain ⟨kds, ei, w⟩ := w
  intro v G1 H1 s1 rp
  have r1 := r.step s1
  obtain ⟨a, kvs, h1, h2, h3, h4, h5, h6⟩ := r1.od i _ _ ei
  refine ⟨.ref a, h1, qk env σ G1 H1 _ r1 (mk _ _ _ _ (fun j w => ?_) w)⟩
  obtain ⟨key, kj, hl, w⟩ := w
  intro y G2 H2 s2 ry
  have r2 := r1.step s2
  obtain ⟨a', kvs', k1, k2, k3, k4, k5, k6⟩ := r2.od i _ _ ei
  rw [h1] at k1
  cases k1
  obtain rfl := keyD_rep ry kj
  have hlen : kvs'.length < sizeLine := by
    have := congrArg List.length k5
    simp at this
    omega
  obtain ⟨e1, e2⟩ := putD_rep (key := key) (rep_mono s2.le _ _ rp) k5 k6
  exact ⟨a, _, rfl, DPut.k k2 hlen, w σ G2 _ (s1.le.trans s2.le) (r2.chgD ei h1 e1 e2)⟩
/-- own.get(k, d) -/
def wDGet2 (i : Nat) (fk fd : WE) : WE := fun env Q Y => ∃ kds, env[i]? = some (odS kds) ∧ fk env (fun j => ∃ key, keyD j = some key ∧ fd env (fun d => Q ((valD kds key).getD d)) Y) Y
theorem de_dget2 {i : Nat} {x : Str} {ke de : Expr} {fk fd : WE} {p ap pos : Pos} (B : DB0 W X) (hx : PE X (.Name x p) (tVar i)) (hk : DE W G0 H0 E X ke fk) (hd : DE W G0 H0 E X de fd) (m : M2 X (.Name x p) "get" ap ke de pos) :
    DE W G0 H0 E X (.Call (.Attribute (.Name x p) "get" ap) [ke, de] [] pos) (wDGet2 i fk fd) := by
  obtain ⟨mk, tk, pk, qk⟩ := hk
  obtain ⟨md, td, pd, qd⟩ := hd
  refine ⟨fun env Q Q' Y z ⟨kds, a, w⟩ => ⟨kds, a, mk _ _ _ _ (fun j ⟨key, b, w⟩ => ⟨key, b, md _ _ _ _ (fun d w => z _ w) w⟩) w⟩, _, pe_dget2 (by have := B.un; omega) hx pk pd m, fun env σ G H Q r w => ?_⟩
  obtain ⟨kds, ei, w⟩ := w
  obtain ⟨a, kvs, h1, h2, h3, h4, h5, h6⟩ := r.od i _ _ ei
  refine ⟨.ref a, h1, a, rfl, .inl ⟨kvs, .inl h2⟩, qk env σ G H _ r (mk _ _ _ _ (fun j w => ?_) w)⟩
  obtain ⟨key, kj, w⟩ := w
  intro y G1 H1 s1 ry
  obtain rfl := keyD_rep ry kj
  refine qd env σ G1 H1 _ (r.step s1) (md _ _ _ _ (fun d w => ?_) w)
  intro z G2 H2 s2 rz
  have s12 := s1.trans s2
  obtain ⟨a', kvs', k1, k2, k3, k4, k5, k6⟩ := (r.step s12).od i _ _ ei
  rw [h1] at k1
  cases k1
  obtain ⟨e1, e2⟩ := valD_rep (key := key) k5 k6
  refine ⟨_, DGet.k k2, w _ G2 H2 s12 ?_⟩
  cases hv : valD kds key with
  | none => rw [e2 hv]; exact rz
  | some d' =>
    obtain ⟨v, hv', rv⟩ := e1 d' hv
    rw [hv']
    exact rv
/-- own[k] -/
def wDGet (i : Nat) (fk : WE) : WE := fun env Q Y => ∃ kds, env[i]? = some (odS kds) ∧ fk env (fun j => ∃ key d, keyD j = some key ∧ valD kds key = some d ∧ Q d) Y
theorem de_dget {i : Nat} {x : Str} {ke : Expr} {fk : WE} {p pos : Pos} (B : DB0 W X) (hx : PE X (.Name x p) (tVar i)) (hk : DE W G0 H0 E X ke fk) (ns : NoSl ke) : DE W G0 H0 E X (.Subscript (.Name x p) ke pos) (wDGet i fk) := by
  obtain ⟨mk, tk, pk, qk⟩ := hk
  refine ⟨fun env Q Q' Y z ⟨kds, a, w⟩ => ⟨kds, a, mk _ _ _ _ (fun j ⟨key, d, b, c, w⟩ => ⟨key, d, b, c, z _ w⟩) w⟩, _, pe_dget (by have := B.un; omega) hx pk ns, fun env σ G H Q r w => ?_⟩
  obtain ⟨kds, ei, w⟩ := w
  obtain ⟨a, kvs, h1, h2, h3, h4, h5, h6⟩ := r.od i _ _ ei
  refine ⟨.ref a, h1, qk env σ G H _ r (mk _ _ _ _ (fun j w => ?_) w)⟩
  obtain ⟨key, d, kj, hv, w⟩ := w
  intro y G1 H1 s1 ry
  obtain rfl := keyD_rep ry kj
  obtain ⟨a', kvs', k1, k2, k3, k4, k5, k6⟩ := (r.step s1).od i _ _ ei
  rw [h1] at k1
  cases k1
  obtain ⟨v, hv', rv⟩ := (valD_rep (key := key) k5 k6).1 d hv
  exact ⟨a, v, rfl, by have := DGet.k (k := key) k2; rw [hv'] at this; exact this, w v G1 H1 s1 rv⟩
end
end DL
/-! sorted of texts, of a text; list of a text -/
namespace DL
open PySem PySem.Spec PyProof.Rows L2 Srt

/-! ### sorted of a text -/
section
variable {prog : Program} {w : World} {A : Around} {E : Value → Shared → Prop} {s : Shared}
theorem strs_signs {x : Str} {acc : Array Value} (h : ItemsOf (SignAt x) acc x.cps.size) : StrsAre acc.toList (x.cps.toList.map fun c => (⟨#[c]⟩ : Str)) := by
  have : ∀ (us : List Value) (cs : List Nat), us.length = cs.length → (∀ (j : Nat) (v : Value), us[j]? = some v → ∃ (c : Nat) (u : Tok), cs[j]? = some c ∧ v = Value.str ⟨#[c]⟩ u) → StrsAre us (cs.map fun c => (⟨#[c]⟩ : Str)) := fun us => by
    induction us with
    | nil => intro cs e _; cases cs with
      | nil => exact .nil
      | cons c cs => simp at e
    | cons u us ih =>
      intro cs e h
      cases cs with
      | nil => simp at e
      | cons c cs =>
        obtain ⟨c', t, h1, h2⟩ := h 0 u rfl
        cases h1
        subst h2
        exact .cons _ t (ih cs (by simpa using e) fun j v hj => h (j + 1) v (by simpa using hj))
  refine this acc.toList x.cps.toList (by simp [h.1]) fun j v hj => ?_
  obtain ⟨c, u, h1, h2⟩ := h.2 j v (by simpa using hj)
  exact ⟨c, u, by simpa using h1, h2⟩
theorem sorted_text {x : Str} {t : Tok} {Q : Value → Shared → Prop} (hh : A.handled = none) (hz : x.cps.size ≤ sizeLine)
    (h : ∀ (h1 h2 : Heap) (tk : Nat) (out : Array Value) (ss' : List Str), (∀ b o, s.heap.get? b = some o → h1.get? b = some o) → (∀ b o, h1.get? b = some o → h2.get? b = some o) → (∃ e, h2.get? h1.objs.size = some (seqObj "list" out e)) → StrsAre out.toList ss' →
      ss'.Perm (x.cps.toList.map fun c => (⟨#[c]⟩ : Str)) → sortedS ss' = true → Q (.ref h1.objs.size) { s with heap := h2, toks := tk }) :
    wpAny (model prog w) A (call (.builtin "sorted") [.str x t]) Q E s := by
  refine Calls.call_function_entry kind_sorted plain_sorted entry_sorted (args_sorted1 _) ?_
  unfold Builtin.«sorted»
  refine wpAny_bind (m := checkCount "sorted" 1 1 _) (wpAny_pure ?_)
  refine wpAny_bind (wpAny_collect_str (by simpa using hh) x t (fun s' acc kp hg hd ho hacc => ?_) hz)
  obtain ⟨h', g', d', tk', os'⟩ := s'
  have e1 : g' = s.gens := hg
  have e2 : d' = s.drawn := hd
  have e3 : os' = s.os := ho
  subst e1 e2 e3
  have hS := strs_signs hacc
  have hsz : acc.toList.length ≤ sizeLine := by rw [Array.length_toList, hacc.1]; exact hz
  refine wpAny_bind (wpAny_newList ?_ hsz)
  have hoL : (h'.push (seqObj "list" acc.toList.toArray 0)).get? h'.objs.size = some (seqObj "list" acc.toList.toArray 0) := Heap.get?_push_size _ rfl
  refine wpAny_bind (wpAny_holding (wpAny_call_entry slot_list_sort ⟨_, hoL, rfl⟩ entry_list_sort (list_sort_treeKAny strKind_oneLt hoL hS.keysOf (fun v₁ v₂ rest e => keyKind_strs (by rw [← e]; exact hS)) hsz fun st' a1 a2 => ⟨_, rfl, ?_⟩) (args_list_sort _)))
  refine wpAny_pure ⟨_, rfl, ?_⟩
  obtain ⟨ss', b1, b2, b3⟩ := sorted_out_str hS a1 a2
  refine h h' _ _ _ ss' kp (fun b o q => ?_) (sortedHeap_at hoL) b1 b2 b3
  have hl := Heap.lt_size q
  rw [sortedHeap_old (Nat.ne_of_lt hl) (by rw [Heap.size_push]; exact Nat.lt_succ_of_lt hl)]
  exact Heap.get?_push_of_some _ q
end
section
variable {X : Cx}
/-- sorted(x), x a text; sorted(xs), texts, any number of them -/
def rSortedTx (K : PySem.W.Frag) : List V → Hp → VK → Prop := fun vs H Q => ∃ ss : List Str, ((∃ x : Str, vs = [V.str x] ∧ x.length ≤ sizeLine ∧ ss = x.cps.toList.map fun c => (⟨#[c]⟩ : Str)) ∨ ∃ a, vs = [V.ref a] ∧ SqL K H a (ss.map V.str)) ∧
  ∀ (ys : List Str) (p : Addr), ys.Perm ss → sortedS ys = true → H p = none → Q (.ref p) (upd H p (.lst (ys.map V.str)))
theorem cr_sortedTx (hc : X.calm = true) : CallR X (.builtin "sorted") (rSortedTx X.K) := by
  intro pins s σ H vs us Q I r h
  obtain ⟨ss, h, q⟩ := h
  rcases h with ⟨x, rfl, hz, rfl⟩ | ⟨a, rfl, hs⟩
  · obtain ⟨u, rfl, t, rfl⟩ := vals1 r
    refine sorted_text (I.ok.hd hc) hz fun h1 h2 tk out ss' k1 k2 he b1 b2 b3 => ?_
    have I1 : Inv X pins σ H { s with heap := h1, toks := tk } := I.kept k1
    obtain ⟨ep, he⟩ := he
    have hlen : (ss'.map V.str).length ≤ sizeLine := by rw [List.length_map, b2.length_eq, List.length_map, Array.length_toList]; exact hz
    exact ⟨.ref _, upd H h1.objs.size (.lst (ss'.map V.str)), I1.laid (t' := tk) k2 (Nat.le_refl _) ⟨hlen, out.toList, ep, vals_of_strs b1, he⟩, rfl, q ss' _ b2 b3 (I1.hok.fresh (Nat.le_refl _))⟩
  · obtain ⟨its, rv, hl, hz⟩ := I.list hs
    rw [Vals.ref1 r]
    have hlen0 := rv.length
    rw [List.length_map] at hlen0
    refine PyProof.Rows.sorted_strsAny hl.isList rv.strs (by rw [← hlen0]; rw [List.length_map] at hz; exact hz) fun out ys h1 h2 h3 => ?_
    obtain ⟨ep, he'⟩ := PyProof.Rows.sortedAll_at s.heap its out
    have hlen : (ys.map V.str).length ≤ sizeLine := by rw [List.length_map, h2.length_eq]; rw [List.length_map] at hz; exact hz
    exact ⟨.ref _, upd H (s.heap.objs.size + 1) (.lst (ys.map V.str)), I.laid (t' := s.toks) (fun _ _ => PyProof.Rows.sortedAll_old) (Nat.le_succ _) ⟨hlen, out.toList, ep, vals_of_strs h1, he'⟩, rfl, q ys _ h2 h3 (I.hok.fresh (Nat.le_succ _))⟩
/-- list(x), x a text -/
theorem call_list_tx (hc : X.calm = true) : CallR X (.type "list") (fun xs H Q => ∃ x : Str, xs = [V.str x] ∧ x.length ≤ sizeLine ∧ ∀ l, H l = none → Q (.ref l) (upd H l (.lst ((x.cps.toList.map fun c => (⟨#[c]⟩ : Str)).map V.str)))) := by
  intro pins s σ H vs us Q I r h
  obtain ⟨x, rfl, hz, q⟩ := h
  obtain ⟨u, rfl, t, rfl⟩ := vals1 r
  refine call_list_str (I.ok.hd hc) x t (fun h' tk acc c' hk hS hacc => ?_) hz
  have e1 := strs_signs hacc
  have hlen : ((x.cps.toList.map fun c => (⟨#[c]⟩ : Str)).map V.str).length ≤ sizeLine := by rw [List.length_map, List.length_map, Array.length_toList]; exact hz
  exact ⟨.ref _, upd H s.heap.objs.size (.lst ((x.cps.toList.map fun c => (⟨#[c]⟩ : Str)).map V.str)), I.laid (t' := tk) hk (Nat.le_refl _) ⟨hlen, acc.toList, c', vals_of_strs e1, by simpa using hS⟩, rfl, q _ (I.hok.fresh (Nat.le_refl _))⟩
end
end DL
/-! readings: sorted, list of a text, tuple of a range, methods of texts -/
namespace DL
open PySem PySem.Spec PyProof.Rows L2
/-- ascending -/
def sortN (s : List Nat) : List Nat := s.mergeSort (fun a b => decide (a ≤ b))
def sortZ (s : List Int) : List Int := s.mergeSort (fun a b => decide (a ≤ b))
theorem sortN_perm (s : List Nat) : (sortN s).Perm s := List.mergeSort_perm _ _
theorem sortN_le (s : List Nat) : (sortN s).Pairwise (· ≤ ·) := by
  have := List.pairwise_mergeSort (le := fun a b : Nat => decide (a ≤ b)) (fun a b c h1 h2 => by simp at *; omega) (fun a b => by simp; omega) s
  exact this.imp fun h => by simpa using h
theorem sortN_uniq {s t : List Nat} (p : t.Perm s) (h : t.Pairwise (· ≤ ·)) : t = sortN s :=
  List.Perm.eq_of_pairwise (le := (· ≤ ·)) (fun a b _ _ h1 h2 => by omega) h (sortN_le s) (p.trans (sortN_perm s).symm)
theorem sortN_eq {s t : List Nat} : sortN s = sortN t ↔ s.Perm t := ⟨fun h => (sortN_perm s).symm.trans (h ▸ sortN_perm t), fun h => sortN_uniq ((sortN_perm s).trans h) (sortN_le s)⟩
theorem sortN_len (s : List Nat) : (sortN s).length = s.length := List.length_mergeSort _
theorem sortZ_perm (s : List Int) : (sortZ s).Perm s := List.mergeSort_perm _ _
theorem sortZ_le (s : List Int) : (sortZ s).Pairwise (· ≤ ·) := by
  have := List.pairwise_mergeSort (le := fun a b : Int => decide (a ≤ b)) (fun a b c h1 h2 => by simp at *; omega) (fun a b => by simp; omega) s
  exact this.imp fun h => by simpa using h
theorem sortZ_uniq {s t : List Int} (p : t.Perm s) (h : t.Pairwise (· ≤ ·)) : t = sortZ s :=
  List.Perm.eq_of_pairwise (le := (· ≤ ·)) (fun a b _ _ h1 h2 => by omega) h (sortZ_le s) (p.trans (sortZ_perm s).symm)
/-- one text is not above another -/
def leT (a b : List Nat) : Prop := ltCps b a = false
abbrev sing (c : Nat) : Str := ⟨#[c]⟩
theorem risingS_pair : ∀ (ys : List Str) (p : Str), risingS p ys = true → ∀ y, ys.head? = some y → ltCps y.cps.toList p.cps.toList = false
  | [], _, _, y, e => by cases e
  | x :: r, p, h, y, e => by
    cases e
    unfold risingS at h
    rw [Bool.and_eq_true] at h
    simpa using h.1
theorem leT_trans {a b c : List Nat} (h1 : leT a b) (h2 : leT b c) : leT a c := by
  unfold leT at *
  rw [ltCps_eq, decide_eq_false_iff_not] at *
  exact List.not_lt.mpr (List.le_trans (List.not_lt.mp h1) (List.not_lt.mp h2))
theorem risingS_all : ∀ (ys : List Str) (p : Str), risingS p ys = true → (p :: ys).Pairwise fun a b => leT a.cps.toList b.cps.toList
  | [], p, _ => List.pairwise_singleton _ _
  | x :: r, p, h => by
    unfold risingS at h
    rw [Bool.and_eq_true] at h
    have ih := risingS_all r x h.2
    have hx : leT p.cps.toList x.cps.toList := by simpa [leT] using h.1
    refine List.pairwise_cons.mpr ⟨fun y hy => ?_, ih⟩
    rcases List.mem_cons.mp hy with e | e
    · rw [e]; exact hx
    · exact leT_trans hx ((List.pairwise_cons.mp ih).1 y e)
theorem sortedS_all {ys : List Str} (h : sortedS ys = true) : ys.Pairwise fun a b => leT a.cps.toList b.cps.toList := by
  cases ys with
  | nil => exact .nil
  | cons y r => exact risingS_all r y h
theorem perm_map {α β : Type} (f : α → β) : ∀ {ys : List β} {xs : List α}, ys.Perm (xs.map f) → ∃ zs : List α, ys = zs.map f ∧ zs.Perm xs := fun {ys xs} h => by
  have key : ∀ {l m : List β}, l.Perm m → ∀ xs : List α, m = xs.map f → ∃ zs : List α, l = zs.map f ∧ zs.Perm xs := fun {l m} h => by
    induction h with
    | nil => intro xs e; exact ⟨[], rfl, by cases xs with | nil => exact .nil | cons => simp at e⟩
    | cons x _ ih =>
      intro xs e
      cases xs with
      | nil => simp at e
      | cons y xs =>
        simp only [List.map_cons, List.cons.injEq] at e
        obtain ⟨rfl, e⟩ := e
        obtain ⟨zs, e1, p⟩ := ih xs e
        exact ⟨y :: zs, by rw [e1]; rfl, p.cons y⟩
    | swap x y l =>
      intro xs e
      match xs, e with
      | a :: b :: xs, e =>
        simp only [List.map_cons, List.cons.injEq] at e
        obtain ⟨rfl, rfl, rfl⟩ := e
        exact ⟨b :: a :: xs, rfl, .swap a b xs⟩
    | trans _ _ ih1 ih2 =>
      intro xs e
      obtain ⟨zs, e2, p2⟩ := ih2 xs e
      obtain ⟨ws, e1, p1⟩ := ih1 zs e2
      exact ⟨ws, e1, p1.trans p2⟩
  exact key h xs rfl
theorem sorted_sings {s : List Nat} {ys : List Str} (p : ys.Perm (s.map sing)) (h : sortedS ys = true) : ys = (sortN s).map sing := by
  obtain ⟨t, rfl, pt⟩ := perm_map sing p
  have h2 := sortedS_all h
  rw [List.pairwise_map] at h2
  rw [sortN_uniq pt (h2.imp fun {a b} hab => ?_)]
  unfold leT at hab
  simp [ltCps] at hab
  omega
section
variable {W : Wd} {G0 H0 G G' H H' : Hp} {E : XK} {X : Cx} {k n : Nat} {env : Env1} {σ : L2.St}
theorem reps_sings {K : PySem.W.Frag} (s : List Nat) : reps K G (s.map fun c => D.str [c]) ((s.map sing).map V.str) := by
  rw [List.map_map]
  exact reps_map (fun c => by unfold rep; rfl) s
theorem reps_strs' {K : PySem.W.Frag} : ∀ {ss : List Str}, reps K G (ss.map fun x => D.str x.cps.toList) (ss.map V.str) := fun {ss} => reps_map (fun x => by unfold rep; rfl) ss
def sortedD : List D → (List D → Prop) → Prop
  | [.str s], Q => s.length ≤ sizeLine ∧ Q ((sortN s).map fun c => .str [c])
  | [.lst ds], Q => (∃ ns : List Int, ds = ns.map D.int ∧ Q ((sortZ ns).map D.int)) ∨ ∃ ss : List (List Nat), ds = ss.map D.str ∧ ∀ ys : List (List Nat), ys.Perm ss → ys.Pairwise leT → Q (ys.map D.str)
  | _, _ => False
def rSortedA (K : PySem.W.Frag) : List V → Hp → VK → Prop := fun vs H Q => rSortedTx K vs H Q ∨ rSortedI K vs H Q
theorem cr_sortedA (hc : X.calm = true) : CallR X (.builtin "sorted") (rSortedA X.K) := (cr_sortedTx hc).or cr_sortedI
theorem zs_of (x : Str) : zs x.cps.toList = x := by cases x; simp [zs]
theorem lift_sorted : LiftF W (rSortedA W.K) sortedD := by
  refine ⟨fun ds Q Q' z h => ?_, fun G H vs ds Q g rp h => ?_⟩
  · unfold sortedD at h ⊢
    split at h
    · exact ⟨h.1, z _ h.2⟩
    · rcases h with ⟨ns, e, h⟩ | ⟨ss, e, h⟩
      · exact .inl ⟨ns, e, z _ h⟩
      · exact .inr ⟨ss, e, fun ys p q => z _ (h ys p q)⟩
    · exact h
  · unfold sortedD at h
    split at h
    · rename_i s
      obtain ⟨v, rfl, r⟩ := reps1 rp
      have e := rep_str r
      subst e
      refine .inl ⟨_, .inl ⟨zs s, rfl, by rw [zs_len]; exact h.1, rfl⟩, fun ys p hp hs hn => ?_⟩
      rw [zs_list] at hp
      rw [sorted_sings hp hs]
      exact QF.lst g (reps_sings _) h.2 p hn
    · obtain ⟨v, rfl, r⟩ := reps1 rp
      obtain ⟨p, xs, rfl, hs, r1⟩ := rep_lst r
      rcases h with ⟨ns, rfl, h⟩ | ⟨ss, rfl, h⟩
      · rw [reps_ints r1] at hs
        refine .inr ⟨p, ns, rfl, SqL.at (g.le _ _ hs), fun ns' q hp hle hn => ?_⟩
        rw [sortZ_uniq hp hle]
        exact QF.lst g (reps_map (fun i => rep_int') _) h q hn
      · rw [reps_strs r1] at hs
        refine .inl ⟨ss.map zs, .inr ⟨p, rfl, SqL.at (g.le _ _ hs)⟩, fun ys q hp hso hn => ?_⟩
        obtain ⟨t, rfl, pt⟩ := perm_map zs hp
        refine QF.lst g ?_ (h t pt ?_) q hn
        · rw [List.map_map]; exact reps_map (fun x => rep_str') t
        · have h2 := sortedS_all hso
          rw [List.pairwise_map] at h2
          exact h2.imp fun {a b} hab => by rw [zs_list, zs_list] at hab; exact hab
    · exact h.elim
/-- list(x), x a text, a list, a tuple -/
def listA : List D → (List D → Prop) → Prop
  | [.lst ds], Q => Q ds
  | [.tup ds], Q => Q ds
  | [.str s], Q => s.length ≤ sizeLine ∧ Q (s.map fun c => .str [c])
  | _, _ => False
def rListB (K : PySem.W.Frag) : List V → Hp → VK → Prop := fun vs H Q => rListA K vs H Q ∨ (∃ x : Str, vs = [V.str x] ∧ x.length ≤ sizeLine ∧ ∀ l, H l = none → Q (.ref l) (upd H l (.lst ((x.cps.toList.map fun c => (⟨#[c]⟩ : Str)).map V.str))))
theorem cr_listB (hc : X.calm = true) : CallR X (.type "list") (rListB X.K) := call_list_of.or (call_list_tx hc)
theorem lift_listA : LiftF W (rListB W.K) listA := by
  refine ⟨fun ds Q Q' z h => ?_, fun G H vs ds Q g rp h => ?_⟩
  · unfold listA at h ⊢
    split at h <;> first | exact z _ h | exact ⟨h.1, z _ h.2⟩ | exact h
  · unfold listA at h
    split at h
    · exact .inl (lift_list.run G H vs _ Q g rp h)
    · exact .inl (lift_list.run G H vs _ Q g rp h)
    · rename_i s
      obtain ⟨v, rfl, r⟩ := reps1 rp
      have e := rep_str r
      subst e
      refine .inr ⟨zs s, rfl, by rw [zs_len]; exact h.1, fun l hn => ?_⟩
      rw [zs_list]
      exact QF.lst g (reps_sings s) h.2 l hn
    · exact h.elim
theorem bt_sorted : bootBuiltins "sorted" = some (.builtin "sorted") := by decide +kernel
theorem bt_set : bootBuiltins "set" = some (.type "set") := by decide +kernel
theorem bt_range : bootBuiltins "range" = some (.type "range") := by decide +kernel
theorem bt_ord : bootBuiltins "ord" = some (.builtin "ord") := by decide +kernel
/-- list(range(a, b)), tuple(range(a, b)), also of one bound -/
theorem rgV_rep {K : PySem.W.Frag} {i j : Int} : reps K G (rangeD i j) (rgV i j) := by
  unfold rangeD rgV
  exact reps_map (fun n => rep_int') _
def wRg (lst : Bool) (fa fb : WE) : WE := fun env Q Y => fa env (fun a => fb env (fun b => ∃ i j : Int, a = .int i ∧ b = .int j ∧ RgOk i j ∧ Q (if lst then .lst (rangeD i j) else .tup (rangeD i j))) Y) Y
theorem de_tupRg2 {a b : Expr} {fa fb : WE} {p p2 pos pos2 : Pos} (hc : X.calm = true) (hg : Gl X "tuple") (hm : X.mg "tuple" = none) (hg2 : Gl X "range") (hm2 : X.mg "range" = none) (ha : DE W G0 H0 E X a fa) (hb : DE W G0 H0 E X b fb)
    (na : starEach [a, b] X.env = (false, eval a X.env) :: starEach [b] X.env := by rfl) (nb : starEach [b] X.env = (false, eval b X.env) :: starEach [] X.env := by rfl) (hp : (backTo pos2 (starEach [b] X.env)).any (·.1) = false := by rfl)
    (nc : starEach [.Call (.Name "range" p2) [a, b] [] pos2] X.env = (false, eval (.Call (.Name "range" p2) [a, b] [] pos2) X.env) :: starEach [] X.env := by rfl) :
    DE W G0 H0 E X (.Call (.Name "tuple" p) [.Call (.Name "range" p2) [a, b] [] pos2] [] pos) (wRg false fa fb) := by
  obtain ⟨ma, ta, pa, qa⟩ := ha
  obtain ⟨mb, tb, pb, qb⟩ := hb
  refine ⟨fun env Q Q' Y z w => ma _ _ _ _ (fun d w => mb _ _ _ _ (fun d ⟨i, j, e1, e2, o, w⟩ => ⟨i, j, e1, e2, o, z _ w⟩) w) w, _, pe_tupRg hc hg hm (prg_2 hg2 hm2 pa pb na nb hp) nc, fun env σ G H Q r w => ?_⟩
  refine qa env σ G H _ r (ma _ _ _ _ (fun d w => ?_) w)
  intro v G1 H1 s1 r1
  refine qb env σ G1 H1 _ (r.step s1) (mb _ _ _ _ (fun d2 w => ?_) w)
  obtain ⟨i, j, rfl, rfl, o, w⟩ := w
  intro v2 G2 H2 s2 r2
  refine ⟨i, j, rep_int r1, rep_int r2, o, QE.tup s2.gok rgV_rep ?_⟩
  exact QE.step s2 (QE.step s1 w)
theorem de_listRg1 {a : Expr} {fa : WE} {p p2 pos pos2 : Pos} (hc : X.calm = true) (hg : Gl X "list") (hm : X.mg "list" = none) (hg2 : Gl X "range") (hm2 : X.mg "range" = none) (ha : DE W G0 H0 E X a fa)
    (na : starEach [a] X.env = (false, eval a X.env) :: starEach [] X.env := by rfl)
    (nc : starEach [.Call (.Name "range" p2) [a] [] pos2] X.env = (false, eval (.Call (.Name "range" p2) [a] [] pos2) X.env) :: starEach [] X.env := by rfl) :
    DE W G0 H0 E X (.Call (.Name "list" p) [.Call (.Name "range" p2) [a] [] pos2] [] pos) (wRg true (wC (.int 0)) fa) := by
  obtain ⟨ma, ta, pa, qa⟩ := ha
  refine ⟨fun env Q Q' Y z w => ma _ _ _ _ (fun d ⟨i, j, e1, e2, o, w⟩ => ⟨i, j, e1, e2, o, z _ w⟩) w, _, pe_listRg hc hg hm (prg_1 hg2 hm2 pa na) nc, fun env σ G H Q r w => ?_⟩
  refine qa env σ G H _ r (ma _ _ _ _ (fun d w => ?_) w)
  obtain ⟨i, j, e1, rfl, o, w⟩ := w
  cases e1
  intro v G1 H1 s1 r1
  refine ⟨j, rep_int r1, o, QE.lst s1.gok rgV_rep ?_⟩
  exact QE.step s1 w
/-- methods of texts -/
def gUp (f : Str → Str) : D → List D → PD → Prop := fun o ds Q => ∃ s : List Nat, o = .str s ∧ ds = [] ∧ s.length ≤ 5592405 ∧ Q (.str (f (zs s)).cps.toList)
theorem lift_up {f : Str → Str} : LiftM W (fun x xs H Q => ∃ a, x = .str a ∧ xs = [] ∧ a.length ≤ 5592405 ∧ Q (.str (f a)) H) isStr (gUp f) :=
  ⟨fun o ds Q Q' z ⟨s, a, b, c, w⟩ => ⟨s, a, b, c, z _ w⟩, fun G H x vs o ds Q g ro rs ⟨s, a, b, c, w⟩ => by
    subst a b
    have e := rep_str ro
    subst e
    refine ⟨zs s, rfl, rs.nil_eq, by rw [zs_len]; exact c, QE.here g ?_ w⟩
    unfold rep
    rw [zs_of]⟩
end
end DL
/-! two items of an owned list exchanged; replace of one sign -/
namespace DL
open PySem PySem.Spec PyProof.Rows L2
section
variable {W : Wd} {G0 H0 G G' H H' : Hp} {E : XK} {X : Cx} {k n : Nat} {env : Env1} {σ : L2.St}
/-- own[e1], own[e2] = v1, v2 -/
def wSwap (i : Nat) (f1 f2 : WE) (ga : WL) : WS := fun env D Y => ga env (fun ds => ∃ a b xs, ds = [a, b] ∧ env[i]? = some (.ow xs) ∧
  f1 env (fun j => ∃ k n, j = .int k ∧ ixN xs.length k = some n ∧ f2 (env.set i (.ow (xs.set n a))) (fun j2 => ∃ k2 n2, j2 = .int k2 ∧ ixN xs.length k2 = some n2 ∧ D.nx (env.set i (.ow ((xs.set n a).set n2 b)))) Y) Y) Y
theorem ds_swap {i : Nat} {x : Str} {e1 e2 v1 v2 : Expr} {f1 f2 : WE} {ga : WL} {p1 p2 q1 q2 tp vp pos : Pos} {kt kv : Nat} (C : DC W E k X) (hx : PE X (.Name x p1) (tVar i))
    (hp : ∀ t1 t2 ta, PE X e1 t1 → PE X e2 t2 → PA X [v1, v2] ta → PS X (.Assign [.Tuple [.Subscript (.Name x p1) e1 q1, .Subscript (.Name x p2) e2 q2] kt tp] (.Tuple [v1, v2] kv vp) pos)
      (tAsg (tTup ta) (gTup X.K 2 (gCons (gSub (tVar i) t1 rSetL) (gCons (gSub (tVar i) t2 rSetL) gNil)))))
    (h1 : DE W G0 H0 E X e1 f1) (h2 : DE W G0 H0 E X e2 f2) (hv : DA W G0 H0 E X [v1, v2] ga) :
    DS W G0 H0 E X (.Assign [.Tuple [.Subscript (.Name x p1) e1 q1, .Subscript (.Name x p2) e2 q2] kt tp] (.Tuple [v1, v2] kv vp) pos) (wSwap i f1 f2 ga) := by
  have hK := C.hK
  obtain ⟨ma, t1, pt1, qa⟩ := h1
  obtain ⟨mb, t2, pt2, qb⟩ := h2
  obtain ⟨mv, _, tv, ptv, qv⟩ := hv
  refine ⟨fun env D D' Y z w => mv _ _ _ _ (fun ds ⟨a, b, xs, e, ei, w⟩ => ⟨a, b, xs, e, ei, ma _ _ _ _ (fun j ⟨k, n, ek, en, w⟩ => ⟨k, n, ek, en, mb _ _ _ _ (fun j2 ⟨k2, n2, ek2, en2, w⟩ => ⟨k2, n2, ek2, en2, z.nx _ w⟩) w⟩) w⟩) w, _, hp _ _ _ pt1 pt2 ptv, fun env σ G H Dv r w => ?_⟩
  refine qv env σ G H _ r (mv _ _ _ _ (fun ds w => ?_) w)
  obtain ⟨a, b, xs, rfl, ei, w⟩ := w
  intro vs G1 H1 s1 rvs
  obtain ⟨va, vb, rfl, ra, rb⟩ := reps2 rvs
  refine ⟨by show 2 ≤ sizeLine; decide, fun p hpn => ?_⟩
  have s2 := Gst.hid (G := G1) s1.gok (.tup [va, vb]) hpn
  have r2 := (r.step s1).step s2
  obtain ⟨l, ys, k1, k2, k3, k4, k5⟩ := r2.ow i _ ei
  refine ⟨p, [va, vb], rfl, .inl (.inl upd_same), rfl, va, [vb], rfl, .ref l, k1, ?_⟩
  refine qa env σ G1 _ _ r2 (ma _ _ _ _ (fun j w => ?_) w)
  obtain ⟨kk, n, rfl, en, w⟩ := w
  intro vj G3 H3 s3 rj
  have r3 := r2.step s3
  obtain ⟨l', ys', j1, j2, j3, j4, j5⟩ := r3.ow i _ ei
  rw [k1] at j1
  cases j1
  refine ⟨l, ys', kk, n, rfl, rep_int rj, j2, by rw [j5.length]; exact en, ?_⟩
  have ra3 := rep_mono s3.le _ _ ra
  have rb3 := rep_mono s3.le _ _ rb
  have r4 := r3.chg ei k1 (j5.set n ra3)
  refine ⟨vb, [], rfl, .ref l, k1, ?_⟩
  refine qb _ σ G3 _ _ r4 (mb _ _ _ _ (fun j w => ?_) w)
  obtain ⟨k2', n2, rfl, en2, w⟩ := w
  intro vj2 G5 H5 s5 rj2
  have r5 := r4.step s5
  have hl : i < env.length := (List.getElem?_eq_some_iff.mp ei).1
  have ei5 : (env.set i (.ow (xs.set n a)))[i]? = some (.ow (xs.set n a)) := List.getElem?_set_self hl
  obtain ⟨l', zs', i1, i2, i3, i4, i5⟩ := r5.ow i _ ei5
  rw [k1] at i1
  cases i1
  refine ⟨l, zs', k2', n2, rfl, rep_int rj2, i2, by rw [i5.length, List.length_set]; exact en2, rfl, ?_⟩
  have r6 := r5.chg ei5 k1 (i5.set n2 (rep_mono s5.le _ _ rb3))
  rw [List.set_set] at r6
  exact w σ G5 _ ((s1.le.trans s3.le).trans s5.le) r6
theorem repR_keep {Hb : Hp} {rs : Rs} {v : V} (h : repR W Hb G H rs v) (kp : ∀ p xs, H p = some (.lst xs) → H' p = some (.lst xs)) : repR W Hb G H' rs v := by
  cases rs with
  | dt d => exact h
  | fr ds =>
    obtain ⟨p, xs, a, b, c, d, e⟩ := h
    exact ⟨p, xs, a, kp _ _ b, c, d, e⟩
/-- a, b = e1, e2 by way of a tuple: one of the names is a cell -/
theorem ds_parT {i j : Nat} {st : Stmt} {es : List Expr} {g : WM} (hK : X.K = W.K) (hp : ∀ ta, PA X es ta → PS X st (tAsg (tTup ta) (gTup X.K 2 (gCons (gName i) (gCons (gName j) gNil))))) (ha : DM W G0 H0 E X es g) : DS W G0 H0 E X st (wPar i j g) := by
  obtain ⟨m, t, pt, q⟩ := ha
  refine ⟨fun env D D' Y z w => m _ _ _ _ (fun rs ⟨a, b, e, n, w⟩ => ⟨a, b, e, n, z.nx _ w⟩) w, _, hp _ pt, fun env σ G H Dv r w => ?_⟩
  refine q env σ G H [] _ r (fun p hp => by cases hp) (m _ _ _ _ (fun rs w => ?_) w)
  obtain ⟨a, b, rfl, nij, w⟩ := w
  intro vs G1 H1 s1 rm
  have hb : ∀ p, fr W H p → fr W H0 p := fun p h => r.st.fr h
  have old : ∀ (l : Nat) es p, env[l]? = some (.ow es) → σ[l]? = some (some (.ref p)) → ¬ fr W H p := fun l es p e1 e2 z => by
    obtain ⟨p', xs, k1, k2, _⟩ := r.ow l es e1
    rw [e2] at k1; cases k1
    exact z.not k2 lst_tbl
  have key : ∃ v1 v2, vs = [v1, v2] ∧ repR W H G1 H1 a v1 ∧ repR W H G1 H1 b v2 ∧ ((∃ ds, a = .fr ds) → (∃ ds, b = .fr ds) → v1 ≠ v2) := by
    cases a with
    | dt d =>
      obtain ⟨v, r', e1, rp, rm⟩ := rm
      cases b with
      | dt d2 =>
        obtain ⟨v2, r2, e2, rp2, rm2⟩ := rm
        have rm2' : r2 = [] := rm2
        subst e1 e2 rm2'
        exact ⟨v, v2, rfl, rp, rp2, fun ⟨_, z⟩ => by cases z⟩
      | fr ds2 =>
        obtain ⟨p, xs, r2, e2, _, k1, k2, k3, k4, rm2⟩ := rm
        have rm2' : r2 = [] := rm2
        subst e1 e2 rm2'
        exact ⟨v, .ref p, rfl, rp, ⟨p, xs, rfl, k1, k2, k3, k4⟩, fun ⟨_, z⟩ => by cases z⟩
    | fr ds =>
      obtain ⟨p, xs, r', e1, _, k1, k2, k3, k4, rm⟩ := rm
      cases b with
      | dt d2 =>
        obtain ⟨v2, r2, e2, rp2, rm2⟩ := rm
        have rm2' : r2 = [] := rm2
        subst e1 e2 rm2'
        exact ⟨.ref p, v2, rfl, ⟨p, xs, rfl, k1, k2, k3, k4⟩, rp2, fun _ ⟨_, z⟩ => by cases z⟩
      | fr ds2 =>
        obtain ⟨p2, xs2, r2, e2, np, l1, l2, l3, l4, rm2⟩ := rm
        have rm2' : r2 = [] := rm2
        subst e1 e2 rm2'
        exact ⟨.ref p, .ref p2, rfl, ⟨p, xs, rfl, k1, k2, k3, k4⟩, ⟨p2, xs2, rfl, l1, l2, l3, l4⟩, fun _ _ z => np (by cases z; exact List.mem_cons_self)⟩
  obtain ⟨v1, v2, rfl, ha1, hb1, hne⟩ := key
  refine ⟨by show 2 ≤ sizeLine; decide, fun pt hpt => ?_⟩
  have s2 := Gst.hid (G := G1) s1.gok (.tup [v1, v2]) hpt
  have r1 := (r.step s1).step s2
  have kp : ∀ p xs, H1 p = some (.lst xs) → (upd H1 pt (.tup [v1, v2])) p = some (.lst xs) := fun p xs e => same_new hpt _ _ e
  have ha2 := repR_keep (H' := upd H1 pt (.tup [v1, v2])) ha1 kp
  have hb2 := repR_keep (H' := upd H1 pt (.tup [v1, v2])) hb1 kp
  refine ⟨pt, [v1, v2], rfl, .inl (.inl upd_same), rfl, v1, [v2], rfl, v2, [], rfl, rfl, ?_⟩
  have ra := r1.set_rs (i := i) hb ha2 fun l es p nl ev ⟨ds, ea⟩ el z => by
    subst ea
    obtain ⟨p', xs, e1, _, _, n, _⟩ := ha1
    rw [ev] at e1; cases e1
    exact old l es p el z n
  refine w _ G1 _ s1.le (ra.set_rs (i := j) hb hb2 fun l es p nl ev ⟨ds, eb⟩ el z => ?_)
  subst eb
  obtain ⟨p', xs, e1, _, _, n, _⟩ := hb1
  rw [ev] at e1; cases e1
  by_cases hl : i = l
  · subst hl
    have li : i < env.length := by
      have := (List.getElem?_eq_some_iff.mp el).1
      rwa [List.length_set] at this
    rw [List.getElem?_set_self li] at el
    rw [List.getElem?_set_self (by rw [r1.len]; exact li)] at z
    cases a with
    | dt d => cases el
    | fr ds' =>
      refine hne ⟨_, rfl⟩ ⟨_, rfl⟩ ?_
      rw [ev]
      exact Option.some.inj (Option.some.inj z)
  · rw [List.getElem?_set_ne hl] at el z
    exact old l es p el z n
theorem dt_borC (i : Nat) {e : Expr} {f : WE} (h : DE W G0 H0 E X e f) (h2 : DT W G0 H0 E X e (wIs f)) : DT W G0 H0 E X e (wIs (wBor i f)) := by
  have m := h.mono
  obtain ⟨m2, t, p, q⟩ := h2
  refine ⟨fun env Q Q' Y z ⟨ds, a, w⟩ => ⟨ds, a, m _ _ _ _ (fun d ⟨s, b, e, k⟩ => ⟨s, b, e, z _ k⟩) w⟩, t, p, fun env σ G H Q r w => ?_⟩
  obtain ⟨ds, ei, w⟩ := w
  obtain ⟨a, xs, h1, h2, h3, h4, h5⟩ := r.ow i ds ei
  obtain ⟨r', sm⟩ := r.freeze ei h1 h2
  refine q _ σ _ H Q r' (m _ _ _ _ (fun d w => ?_) w)
  obtain ⟨_, b, e, w⟩ := w
  refine ⟨b, e, fun G' H' s => ?_⟩
  exact w G H' ⟨⟨(sm.trans s.le).trans s.gok.le, s.gok.w, r.gok.nm, r.gok.tb⟩, Same.refl _, fun a o z => .inl z, s.keep⟩
/-- a, b = {}, a new list -/
def wParD (i j : Nat) (f : WL) : WS := fun env D Y => f env (fun ds => i ≠ j ∧ D.nx ((env.set i (odS [])).set j (.ow ds))) Y
theorem ds_parD {i j : Nat} {st : Stmt} {dp : Pos} {e : Expr} {f : WL} (hp : ∀ ta, PA X [.Dict [] [] dp, e] ta → PS X st (tPar i j ta)) (he : DF W G0 H0 E X e f)
    (hst : starEach [.Dict [] [] dp, e] X.env = (false, eval (.Dict [] [] dp) X.env) :: starEach [e] X.env := by rfl) (hst2 : starEach [e] X.env = (false, eval e X.env) :: starEach [] X.env := by rfl) : DS W G0 H0 E X st (wParD i j f) := by
  obtain ⟨m, t, pt, q⟩ := he
  refine ⟨fun env D D' Y z w => m _ _ _ _ (fun ds ⟨n, w⟩ => ⟨n, z.nx _ w⟩) w, _, hp _ (pa_cons pe_dnewK (pa_cons pt pa_nil hst2) hst), fun env σ G H Dv r w => ?_⟩
  intro p hpn
  have s1 := Gst.hid (G := G) r.gok (.dK []) hpn
  refine q env σ G _ _ (r.step s1) (m _ _ _ _ (fun ds w => ?_) w)
  obtain ⟨nij, w⟩ := w
  intro l xs G2 H2 s2 n a b rp
  have f0 : fr W H p := r.gok.w.fr hpn
  have kp : H2 p = some (.dK []) := s2.keep _ _ upd_same dk_tbl f0.1
  have gp : G2 p = none := by
    cases e : G2 p with
    | none => rfl
    | some o =>
      rcases s2.new _ _ e with z | z
      · rw [r.gok.nn hpn] at z; cases z
      · exact (z.not upd_same dk_tbl).elim
  have r2 := (r.step s1).step s2
  have r3 : RelS W G0 H0 (env.set i (odS [])) (σ.set i (some (.ref p))) G2 H2 := r2.set_od kp gp (r.st.fr f0) rfl .nil fun a' ks' es _ ej z => by
    obtain ⟨p', kvs, h1, h2, _⟩ := r.od a' ks' es ej
    rw [h1] at z
    cases z
    rw [hpn] at h2; cases h2
  have nl : fr W H l := s1.fr n
  refine ⟨.ref p, .ref l, rfl, w _ G2 H2 (s1.le.trans s2.le) (r3.set_ow a b (r.st.fr nl) rp fun a' es na ea z => ?_)⟩
  by_cases ha : i = a'
  · subst ha
    have hl : i < env.length := by
      have := (List.getElem?_eq_some_iff.mp ea).1
      rwa [List.length_set] at this
    rw [List.getElem?_set_self hl] at ea; cases ea
  · rw [List.getElem?_set_ne ha] at ea z
    obtain ⟨p', ys, h1, h2, _⟩ := r.ow a' es ea
    rw [h1] at z
    cases z
    exact nl.not h2 lst_tbl
end
theorem valD_put (kds : List (Key × D)) (k j : Key) (d : D) : valD (putD kds k d) j = if j = k then some d else valD kds j := by
  unfold putD valD
  by_cases h : (kds.any fun p => decide (p.1 = k)) = true
  · rw [if_pos h]
    induction kds with
    | nil => simp at h
    | cons p l ih =>
      obtain ⟨a, x⟩ := p
      rw [List.map_cons]
      by_cases ha : a = k
      · subst ha
        rw [if_pos rfl]
        by_cases hj : a = j
        · subst hj; simp
        · have hj' : ¬ j = a := fun z => hj z.symm
          simp only [List.find?_cons, hj, hj', decide_false, if_false]
          by_cases hl : (l.any fun p => decide (p.1 = a)) = true
          · have := ih hl
            rw [if_neg hj'] at this
            exact this
          · have : (l.map fun p => if p.1 = a then (p.1, d) else p) = l := by
              conv => rhs; rw [← List.map_id l]
              refine List.map_congr_left fun q hq => ?_
              rw [if_neg]; rfl
              intro z
              exact hl (List.any_eq_true.mpr ⟨q, hq, by simpa using z⟩)
            rw [this]
      · have hl : (l.any fun p => decide (p.1 = k)) = true := by
          rw [List.any_cons, decide_eq_false ha, Bool.false_or] at h
          exact h
        rw [if_neg ha]
        by_cases hj : a = j
        · subst hj
          rw [if_neg ha]; simp
        · simp only [List.find?_cons, hj, decide_false]
          exact ih hl
  · rw [if_neg h, List.find?_append]
    by_cases hj : j = k
    · subst hj
      rw [if_pos rfl]
      have : kds.find? (fun p => decide (p.1 = j)) = none := by
        rw [List.find?_eq_none]
        intro p hp z
        exact h (List.any_eq_true.mpr ⟨p, hp, z⟩)
      rw [this]
      simp
    · rw [if_neg hj]
      have : ([(k, d)] : List (Key × D)).find? (fun p => decide (p.1 = j)) = none := by
        rw [List.find?_cons, decide_eq_false (fun z => hj z.symm)]; rfl
      rw [this, Option.or_none]
theorem putD_len (kds : List (Key × D)) (k : Key) (d : D) : (putD kds k d).length ≤ kds.length + 1 := by
  unfold putD
  split
  · rw [List.length_map]; omega
  · rw [List.length_append]; exact Nat.le_refl _
end DL
/-! set(x) of a text or a list of texts: its number, its members in order -/
namespace DL
open PySem PySem.Spec PyProof.Rows L2 Srt

def txK (e : Int × Value) : Str := match e.2 with | .str k _ => k | _ => Str.empty
/-- an entry of a text -/
def TxE (P : Program) (w : World) (e : Int × Value) : Prop := ∃ k tk, e.2 = Value.str k tk ∧ e.1 = (strKind P w).hash k
/-- at a the set of the texts L, each once -/
def TxSet (P : Program) (w : World) (h : Heap) (a : Addr) (L : List Str) : Prop :=
  ∃ ob es ep tb, h.get? a = some ob ∧ ob.ExactSet ∧ ob.data = .set es ep tb ∧ (∀ e ∈ es.toList, TxE P w e) ∧ (es.toList.map txK).Perm L ∧ L.Nodup ∧ es.size < scanBound ∧ tb.fits es.size = true ∧ Ris tb.place.toList ∧ (w.params.followText "set-order" = true ∨ tb.led = true)
section
variable {P : Program} {w : World} {A : Around} {E : Value → Shared → Prop} {s : Shared} {h h' : Heap} {a : Addr} {L : List Str}
theorem TxSet.at (R : TxSet P w h a L) (k : ∀ o, h.get? a = some o → h'.get? a = some o) : TxSet P w h' a L := by
  obtain ⟨ob, es, ep, tb, e1, r⟩ := R
  exact ⟨ob, es, ep, tb, k ob e1, r⟩
theorem txe_is {e : Int × Value} (t : TxE P w e) (k : Str) : (strKind P w).is k e.2 = true ↔ txK e = k := by
  obtain ⟨k0, tk, e1, _⟩ := t
  unfold txK
  rw [e1]
  exact beq_iff_eq
theorem txe_elems {l : List (Int × Value)} (t : ∀ e ∈ l, TxE P w e) : ElemsOf (strKind P w) l := fun e he => by
  obtain ⟨k, tk, e1, e2⟩ := t e he
  exact ⟨⟨k, by rw [e1]; exact strKind_is P w k tk, e2⟩, by rw [e1]; rfl⟩
theorem txset_tail {gv : Bool → Sem Unit} (hgv : ∀ (b : Bool) (s1 : Shared) (Q' : Unit → Shared → Prop), Q' () s1 → wpAny (model P w) A (gv b) Q' E s1)
    {ob : Obj} {es : Array (Int × Value)} {ep : Nat} {tb : SetTable} (e0 : s.heap.get? a = some ob) (ex : ob.ExactSet) (ed : ob.data = .set es ep tb)
    {fs : Array (Int × Value)} {tn : SetTable} {M : List Str} (t1 : ∀ e ∈ fs.toList, TxE P w e) (pm : (fs.toList.map txK).Perm M) (nd : M.Nodup) (b1 : fs.size < scanBound) (f1 : tn.fits fs.size = true) (r1 : Ris tn.place.toList)
    (l1 : w.params.followText "set-order" = true ∨ tn.led = true) {wd : Bool} {R : Option Bool → Shared → Prop} (hR : ∀ h', Heap.SameBut a s.heap h' → TxSet P w h' a M → R (some true) { s with heap := h' }) :
    wpAny (model P w) A (do
        storeSet a fs tn
        if (!wd && tn.tooFull) = true then do
            gv (relayAll tn fs (SetTable.grown fs.size)).2.2
            storeSet a (relayAll tn fs (SetTable.grown fs.size)).1 (relayAll tn fs (SetTable.grown fs.size)).2.1
            pure (some true)
          else pure (some true)) R E s := by
  refine wpAny_bind (wpAny_storeSet_of e0 ed ?_ (fits_of_scanBound b1))
  have n1 := store_at (es' := fs) (t' := tn) e0 ed
  have sb := Heap.SameBut.update s.heap a (Obj.putSet fs tn)
  split
  · have q1 := relayAll_perm tn fs (SetTable.grown fs.size)
    have q2 := relayAll_fits tn fs (SetTable.grown fs.size)
    have q3 := relayAll_ris tn fs (SetTable.grown fs.size)
    have q4 := relayAll_led tn fs (SetTable.grown fs.size)
    generalize relayAll tn fs (SetTable.grown fs.size) = Z at q1 q2 q3 q4 ⊢
    obtain ⟨gs, tz, gave⟩ := Z
    dsimp only at q1 q2 q3 q4 ⊢
    have ez : gs.size = fs.size := by rw [← Array.length_toList, q1.length_eq, Array.length_toList]
    have b2 : gs.size < scanBound := by rw [ez]; exact b1
    refine wpAny_bind (hgv _ _ _ (wpAny_bind (wpAny_storeSet_of n1 rfl ?_ (fits_of_scanBound b2))))
    have n2 := store_at (es' := gs) (t' := tz) n1 rfl
    refine wpAny_pure (hR _ (sb.trans (Heap.SameBut.update _ a _)) ⟨_, gs, _, tz, n2, ex, rfl, fun e he => t1 e (q1.mem_iff.mp he), (q1.map txK).trans pm, nd, b2, q2, q3, l1.imp id fun z => by rw [q4]; exact z⟩)
  · exact wpAny_pure (hR _ sb ⟨_, fs, _, tn, n1, ex, rfl, t1, pm, nd, b1, f1, r1, l1⟩)
/-- one more text -/
theorem txset_add {k : Str} {tk : Tok} {Q : Bool → Shared → Prop} (R : TxSet P w s.heap a L) (room : L.length + 1 < scanBound)
    (hQ : ∀ (b : Bool) h', Heap.SameBut a s.heap h' → TxSet P w h' a (if k ∈ L then L else k :: L) → Q b { s with heap := h' }) :
    wpAny (model P w) A (setAddHashed a (.str k tk) ((strKind P w).hash k)) Q E s := by
  obtain ⟨ob, es, ep, tb, e0, ex, ed, te, pm, nd, bd, ft, rs, ld⟩ := R
  have kis : (strKind P w).is k (.str k tk) = true := strKind_is P w k tk
  have ksc : (Value.str k tk).scannable = true := rfl
  have els : ElemsOf (strKind P w) es.toList := txe_elems te
  unfold setAddHashed setAddHashedIn
  refine wpAny_holding (wpAny_bind (wpAny_setState_of e0 ed ft ?_))
  dsimp only
  rw [byScan_of ksc bd els]
  simp only [↓reduceIte]
  unfold setAddByScan
  refine wpAny_bind (wpAny_bind (wpAny_rule (wpAny_bind (wpAny_setScan_of kis e0 ed ft els ?_))))
  have memk : k ∈ L ↔ ∃ e ∈ es.toList, (strKind P w).is k e.2 = true := by
    rw [← pm.mem_iff, List.mem_map]
    exact ⟨fun ⟨e, he, q⟩ => ⟨e, he, (txe_is (te e he) k).2 q⟩, fun ⟨e, he, q⟩ => ⟨e, he, (txe_is (te e he) k).1 q⟩⟩
  cases hf : List.findIdx? (fun e => (strKind P w).is k e.2) es.toList with
  | some j =>
    dsimp only
    obtain ⟨hj, pj, _⟩ := List.findIdx?_eq_some_iff_getElem.mp hf
    have km : k ∈ L := memk.2 ⟨es.toList[j], List.getElem_mem hj, pj⟩
    refine wpAny_pure (wpAny_pure (hQ _ s.heap (Heap.SameBut.refl a s.heap) ?_))
    rw [if_pos km]
    exact ⟨ob, es, ep, tb, e0, ex, ed, te, pm, nd, bd, ft, rs, ld⟩
  | none =>
    dsimp only
    have kn : k ∉ L := fun z => by
      obtain ⟨e, he, q⟩ := memk.1 z
      have c := List.findIdx?_eq_none_iff.mp hf e he
      rw [q] at c
      cases c
    have hgw : ∀ (b : Bool) {s1 : Shared} {Q' : Unit → Shared → Prop}, Q' () s1 → wpAny (model P w) A (match b with | true => rule "set.scan.the-table-gave-way" | false => pure ()) Q' E s1 :=
      fun b s1 Q' q => by cases b <;> first | exact wpAny_pure q | exact wpAny_rule q
    have p0 := layNew_perm tb es ((strKind P w).hash k) (.str k tk)
    have p1 := layNew_fits tb es ((strKind P w).hash k) (.str k tk)
    have p2 := layNew_ris tb es ((strKind P w).hash k) (.str k tk) rs
    have p3 := layNew_led tb es ((strKind P w).hash k) (.str k tk)
    generalize layNew tb es ((strKind P w).hash k) (.str k tk) = Z at p0 p1 p2 p3 ⊢
    obtain ⟨fs, tn, wd, gave⟩ := Z
    dsimp only at p0 p1 p2 p3 ⊢
    rw [Array.toList_push] at p0
    have pc : fs.toList.Perm (((strKind P w).hash k, Value.str k tk) :: es.toList) := p0.trans (List.perm_append_singleton _ _)
    have tf : ∀ e ∈ fs.toList, TxE P w e := fun e he => by
      rcases List.mem_cons.mp (pc.mem_iff.mp he) with z | z
      · rw [z]; exact ⟨k, tk, rfl, rfl⟩
      · exact te e z
    have pf : (fs.toList.map txK).Perm (k :: L) := (pc.map txK).trans (pm.cons k)
    have nf : (k :: L).Nodup := List.nodup_cons.mpr ⟨kn, nd⟩
    have lf : fs.size = L.length + 1 := by rw [← Array.length_toList, ← List.length_map (f := txK), pf.length_eq, List.length_cons]
    have bf : fs.size < scanBound := by rw [lf]; exact room
    have dl : w.params.followText "set-order" = true ∨ tn.led = true := ld.imp id fun z => by rw [p3]; exact z
    have fin : ∀ h', Heap.SameBut a s.heap h' → TxSet P w h' a (k :: L) → Q true { s with heap := h' } := fun h' sb r => hQ true h' sb (by rw [if_neg kn]; exact r)
    refine wpAny_bind (hgw _ ?_)
    split
    · refine wpAny_bind ?_
      rw [hashByValue_scannable 8 ksc]
      refine wpAny_pure ?_
      refine txset_tail ?_ e0 ex ed tf pf nf bf ?_ ?_ ?_ ?_
      · intro b s1 Q' q; cases b <;> first | exact wpAny_pure q | exact wpAny_rule q
      · first | (split <;> first | exact p1 | exact SetTable.fits_plain_off p1) | exact p1
      · first | (split <;> exact p2) | exact p2
      · first | (split <;> exact dl) | exact dl
      · intro h' sb r; dsimp only; exact wpAny_pure (fin h' sb r)
    · refine wpAny_bind (wpAny_pure ?_)
      simp only [↓reduceIte]
      refine txset_tail ?_ e0 ex ed tf pf nf bf p1 p2 dl ?_
      · intro b s1 Q' q; cases b <;> first | exact wpAny_pure q | exact wpAny_rule q
      · intro h' sb r; dsimp only; exact wpAny_pure (fin h' sb r)
/-- what the set holds behind the first i texts -/
structure TxGot (xs : List Str) (i : Nat) (L : List Str) : Prop where
  m : ∀ k, k ∈ L ↔ k ∈ xs.take i
  l : L.length ≤ i
theorem TxGot.next {xs : List Str} {i : Nat} {L : List Str} {k : Str} (g : TxGot xs i L) (h : xs[i]? = some k) : TxGot xs (i + 1) (if k ∈ L then L else k :: L) := by
  have et : xs.take (i + 1) = xs.take i ++ [k] := by rw [List.take_succ, h]; rfl
  by_cases hk : k ∈ L
  · rw [if_pos hk]
    refine ⟨fun j => ?_, Nat.le_succ_of_le g.l⟩
    rw [et, List.mem_append, ← g.m j, List.mem_singleton]
    exact ⟨.inl, fun z => z.elim id fun e => e ▸ hk⟩
  · rw [if_neg hk]
    refine ⟨fun j => ?_, Nat.succ_le_succ g.l⟩
    rw [et, List.mem_append, ← g.m j, List.mem_singleton, List.mem_cons]
    exact Or.comm
theorem txset_loop {Gr : Array GenState → Array GenState → Prop} {it : Addr} {fp wr : List Addr} {n : Nat} {Pv : Nat → Value → Prop} {St : Nat → Shared → Prop} {R : Result → Shared → Prop}
    (Wk : WalksS P w A.in1 it fp wr Gr n Pv St) (S : Addr) (nS : S ∉ fp) (xs : List Str) (en : xs.length = n) (few : n < 4000) (hv : ∀ i v, Pv i v → ∃ k t, xs[i]? = some k ∧ v = Value.str k t) :
    ∀ (m i : Nat) (s : Shared), n - i = m → i ≤ n → St i s → (∃ L, TxSet P w s.heap S L ∧ TxGot xs i L) →
      (∀ s' L, Moved (S :: wr) Gr s s' → TxSet P w s'.heap S L → TxGot xs n L → R (.ok (.ret .none)) s') → codeAny (model P w) A (.builtin "set.update.loop" ⟨[.ref S, .ref it], []⟩) R s := by
  have Sw : S ∉ wr := fun z => nS (Wk.sub _ z)
  have up : ∀ b ∈ wr, b ∈ S :: wr := fun b hb => List.mem_cons_of_mem _ hb
  intro m
  induction m with
  | zero =>
    intro i s hm hi st ⟨L, hL, g⟩ hR
    have e : i = n := by omega
    subst e
    refine codeAny_builtin PyProof.Rows.F.entry_set_update_loop ?_
    rw [Around.under_plainId PyProof.Rows.F.plain_set_update_loop _]
    show wpAny _ A.in1 (pyNext (.ref it) >>= _) _ _ s
    refine wpAny_bind (Wk.done s _ _ st fun s' mv => ?_)
    show wpAny _ A.in1 (ret Value.none) _ _ s'
    exact wpAny_pure (hR s' L (mv.mono up) (hL.at fun o e => mv.heap S o Sw e) g)
  | succ m ih =>
    intro i s hm hi st ⟨L, hL, g⟩ hR
    have lt : i < n := by omega
    refine codeAny_builtin PyProof.Rows.F.entry_set_update_loop ?_
    rw [Around.under_plainId PyProof.Rows.F.plain_set_update_loop _]
    show wpAny _ A.in1 (pyNext (.ref it) >>= _) _ _ s
    refine wpAny_bind (Wk.item i s _ _ lt st fun v s' hP st' mv => ?_)
    obtain ⟨k, t, hk, rfl⟩ := hv i v hP
    have hL' : TxSet P w s'.heap S L := hL.at fun o e => mv.heap S o Sw e
    show wpAny _ A.in1 (holding [Value.str k t] (setAdd S (.str k t)) >>= _) _ _ s'
    refine wpAny_bind (wpAny_holding ?_)
    unfold setAdd
    refine wpAny_holding (wpAny_bind ((strKind P w).pyHash (k := k) (strKind_is P w k t) ?_))
    refine txset_add (s := { s' with toks := s'.toks + 1 }) hL' (by have := g.l; have : scanBound = 4096 := rfl; omega) fun b h' sb hN => ?_
    refine wpAny_pure ⟨plainId_quiet PyProof.Rows.F.plain_set_update_loop _, ih (i + 1) _ (by omega) lt (Wk.frame _ s' _ _ st' (Nat.le_succ _) fun c hc o e => ?_) ⟨_, hN, g.next hk⟩ fun s'' L2 mv2 hL2 g2 => ?_⟩
    · rw [sb.2 c (fun z : c = S => nS (by rw [← z]; exact hc))]; exact e
    · refine hR s'' L2 (Moved.trans Wk.gtrans ((mv.mono up).then_heap (Nat.le_succ _) fun c o hc e => ?_) mv2) hL2 g2
      rw [sb.2 c (fun z : c = S => hc (by rw [z]; exact List.mem_cons_self))]; exact e
theorem txset_fresh {hp : Heap} {c : Addr} (e0 : hp.get? c = some { cls := .type "set", dict := none, data := .set #[] 0 (.fresh 0 0 (!w.params.followText "set-order")) }) : TxSet P w hp c [] :=
  ⟨_, #[], 0, _, e0, ⟨rfl, rfl, rfl⟩, rfl, (fun e he => by simp at he), .nil, List.nodup_nil, by decide, by rfl, List.Pairwise.nil, by
    show _ ∨ (!w.params.followText "set-order") = true
    cases w.params.followText "set-order"
    · exact .inr rfl
    · exact .inl rfl⟩
/-- set(x): x a list of texts, or a text -/
theorem call_set_tx {arg : Value} {xs : List Str} {Q : Value → Shared → Prop} (hh : A.handled = none) (few : xs.length < 4000)
    (hx : (∃ l items, arg = .ref l ∧ s.heap.IsList l items ∧ StrsAre items.toList xs) ∨ ∃ x t, arg = .str x t ∧ xs = x.cps.toList.map fun c => (⟨#[c]⟩ : Str))
    (hQ : ∀ (h' : Heap) (tk : Nat) L, TxSet P w h' s.heap.objs.size L → TxGot xs xs.length L → (∀ b o, s.heap.get? b = some o → h'.get? b = some o) → Q (.ref s.heap.objs.size) { s with heap := h', toks := tk }) :
    wpAny (model P w) A (call (.type "set") [arg]) Q E s := by
  obtain ⟨c, tl, hmro⟩ := PySem.F.called_set.mro
  have hmade := PySem.F.called_set.made
  have hsub := PySem.F.called_set.sub
  refine wpAny_call (codeAny_of_tree ?_)
  show wpAny _ _ (callAny (.type "set") _) _ _ _
  refine wpAny_pure ⟨Code.quiet_builtin _ (by decide +kernel), codeAny_builtin PySem.F.entry_type_call ?_⟩
  rw [Around.under_plain (weight_type_call_type "set" [arg] []) rfl]
  have f1 := PySem.F.called_set.notType
  have f2 := PySem.F.called_set.canCreate
  have f3 := PySem.F.typeCall_set_1 arg
  repeat (any_goals (first | assumption | wp_step))
  refine codeAny_mono (code_set_led1 arg (E := E) (Q₁ := fun ob s1 => ob = .ref s.heap.objs.size ∧ s1 = { s with heap := s.heap.push { cls := .type "set", dict := none, data := .set #[] 0 (.fresh 0 0 (!w.params.followText "set-order")) } }) ⟨rfl, rfl⟩) fun r s1 hr => ?_
  cases r with
  | error e => exact hr
  | ok fl =>
    cases fl with
    | ret ob =>
      obtain ⟨rfl, rfl⟩ := hr
      have o0 : (s.heap.push { cls := .type "set", dict := none, data := .set #[] 0 (.fresh 0 0 (!w.params.followText "set-order")) }).get? s.heap.objs.size = some { cls := .type "set", dict := none, data := .set #[] 0 (.fresh 0 0 (!w.params.followText "set-order")) } := Heap.get?_push_size _ rfl
      have t0 : Shared.TypeIs { s with heap := s.heap.push { cls := .type "set", dict := none, data := .set #[] 0 (.fresh 0 0 (!w.params.followText "set-order")) } } (.ref s.heap.objs.size) "set" := ⟨_, o0, rfl⟩
      have f4 := PySem.F.called_set.init.lookup
      have f5 := PySem.F.called_set.init.bind (.ref s.heap.objs.size)
      repeat (any_goals (first | assumption | wp_step))
      refine codeAny_mono (codeAny_call_builtin (R := wants (fun r s2 => r = .none ∧ ∃ h' tk L, s2 = { s with heap := h', toks := tk } ∧ TxSet P w h' s.heap.objs.size L ∧ TxGot xs xs.length L ∧
          (∀ b o, s.heap.get? b = some o → h'.get? b = some o)) E) PySem.F.called_set.init.plain PySem.F.entry_set_init (check_set_init_1 t0 ?_)) fun r2 s2 hr2 => ?_
      · have hh3 : A.in1.in1.in1.handled = none := by simp [hh]
        have z1 : (s.heap.push { cls := .type "set", dict := none, data := .set #[] 0 (.fresh 0 0 (!w.params.followText "set-order")) }).objs.size = s.heap.objs.size + 1 := Heap.size_push ..
        -- behind the loop
        have fin : ∀ {wr : List Addr} {Gr : Array GenState → Array GenState → Prop} {s0 s' : Shared} {L : List Str}, Moved (s.heap.objs.size :: wr) Gr s0 s' → TxSet P w s'.heap s.heap.objs.size L → TxGot xs xs.length L → (∀ b o, s.heap.get? b = some o → s0.heap.get? b = some o) → s0.gens = s.gens → s0.drawn = s.drawn → s0.os = s.os → (∀ b ∈ wr, s.heap.objs.size ≤ b) → s'.gens = s0.gens →
            ∃ h' tk L, s' = { s with heap := h', toks := tk } ∧ TxSet P w h' s.heap.objs.size L ∧ TxGot xs xs.length L ∧ (∀ b o, s.heap.get? b = some o → h'.get? b = some o) := fun {wr Gr s0 s' L} mv hL hg k0 g0 d0 o0' hw g1 => by
          have d1 := mv.drawn
          have o1 := mv.os
          have k1 := mv.heap
          obtain ⟨h', gn, dr, tk, os⟩ := s'
          dsimp only at g1 d1 o1 k1 hL
          refine ⟨h', tk, L, ?_, hL, hg, fun b o e => k1 b o (fun z => ?_) (k0 b o e)⟩
          · rw [g1, d1, o1, g0, d0, o0']
          · have hlt := Heap.lt_size e
            rcases List.mem_cons.mp z with z | z
            · exact Nat.ne_of_lt hlt z
            · exact absurd (hw b z) (Nat.not_le.mpr hlt)
        rcases hx with ⟨l, items, rfl, hl, hst⟩ | ⟨x, t, rfl, rfl⟩
        · obtain ⟨ol, hol, hcl, nl, hdl⟩ := hl
          obtain ⟨ocls, odict, odata, oslots⟩ := ol
          simp only at hcl hdl
          subst hcl; subst hdl
          have hol' : (s.heap.push { cls := .type "set", dict := none, data := .set #[] 0 (.fresh 0 0 (!w.params.followText "set-order")) }).get? l = some { cls := .type "list", dict := odict, data := .seq items nl, slots := oslots } := Heap.get?_push_of_some _ hol
          have f6 := PySem.F.sub_list_set
          have f7 := PySem.F.sub_list_frozenset
          have f8 : (Value.type "list" == Value.type "dict") = false := by decide
          have hl1 : (s.heap.push { cls := .type "set", dict := none, data := .set #[] 0 (.fresh 0 0 (!w.params.followText "set-order")) }).IsList l items := ⟨_, hol', rfl, nl, rfl⟩
          unfold Builtin.«set.__init__» noKeywords Builtin.Frozenset.updateFrom
          generalize hPI : pyIter = PI
          wp_walk
          subst hPI
          refine wpAny_pyIter_list hl1 (wpAny_bind (wpAny_runValue ?_))
          have lS : l < s.heap.objs.size := Heap.lt_size hol
          have nI : l ≠ (s.heap.push { cls := .type "set", dict := none, data := .set #[] 0 (.fresh 0 0 (!w.params.followText "set-order")) }).objs.size := by rw [z1]; exact Nat.ne_of_lt (Nat.lt_succ_of_lt lS)
          have nS : s.heap.objs.size ∉ [(s.heap.push { cls := .type "set", dict := none, data := .set #[] 0 (.fresh 0 0 (!w.params.followText "set-order")) }).objs.size, l] := by
            rw [z1]; simp only [List.mem_cons, List.mem_singleton, List.not_mem_nil, or_false, not_or]
            exact ⟨Nat.ne_of_lt (Nat.lt_succ_self _), Nat.ne_of_gt lS⟩
          have hsz : xs.length = items.size := by rw [← StrsAre.len_eq hst, Array.length_toList]
          refine txset_loop ((Walks.list hh3 _ l nI items).toS) s.heap.objs.size nS xs hsz (by omega) (fun i v hv => ?_) (items.size - 0) 0 _ (by omega) (Nat.zero_le _) ⟨⟨_, Heap.get?_push_size _ rfl, rfl, rfl⟩, (hl1.push _)⟩ ⟨[], txset_fresh (Heap.get?_push_of_some _ o0), ⟨fun k => by simp, Nat.le_refl _⟩⟩ fun s' L mv hL hg => ?_
          · obtain ⟨t, e⟩ := SS.strs_at hst i v (by rw [Array.getElem?_toList]; exact hv)
            have hi : i < xs.length := by
              have := (Array.getElem?_eq_some_iff.mp hv).1
              omega
            exact ⟨xs[i], t, List.getElem?_eq_getElem hi, by rw [e, List.getD_eq_getElem?_getD, List.getElem?_eq_getElem hi]; rfl⟩
          · show wpAny _ _ _ _ _ _
            refine wpAny_pure ?_
            show wpAny _ _ (ret Value.none) _ _ _
            rw [← hsz] at hg
            exact wpAny_pure ⟨rfl, fin mv hL hg (fun b o e => Heap.get?_push_of_some _ (Heap.get?_push_of_some _ e)) rfl rfl rfl (fun b hb => by rw [List.mem_singleton.mp hb, z1]; exact Nat.le_succ _) mv.gens⟩
        · have f6 := PySem.F.sub_str_set
          have f7 := PySem.F.sub_str_frozenset
          have f8 : (Value.type "str" == Value.type "dict") = false := by decide
          unfold Builtin.«set.__init__» noKeywords Builtin.Frozenset.updateFrom
          generalize hPI : pyIter = PI
          wp_walk
          subst hPI
          refine wpAny_pyIter_str fun o St Wk st0 => wpAny_bind (wpAny_runValue ?_)
          have nS : s.heap.objs.size ∉ [(s.heap.push { cls := .type "set", dict := none, data := .set #[] 0 (.fresh 0 0 (!w.params.followText "set-order")) }).objs.size] := by
            rw [z1, List.mem_singleton]
            exact Nat.ne_of_lt (Nat.lt_succ_self _)
          have hsz : (x.cps.toList.map fun c => (⟨#[c]⟩ : Str)).length = x.cps.size := by simp
          refine txset_loop (Wk _ hh3).toS s.heap.objs.size nS _ hsz (by rw [← hsz]; exact few) (fun i v hv => ?_) (x.cps.size - 0) 0 _ (by omega) (Nat.zero_le _) st0 ⟨[], txset_fresh (Heap.get?_push_of_some _ o0), ⟨fun k => by simp, Nat.le_refl _⟩⟩ fun s' L mv hL hg => ?_
          · obtain ⟨c, u, e1, e2⟩ := hv
            refine ⟨⟨#[c]⟩, u, ?_, e2⟩
            rw [List.getElem?_map, Array.getElem?_toList, e1]; rfl
          · show wpAny _ _ _ _ _ _
            refine wpAny_pure ?_
            show wpAny _ _ (ret Value.none) _ _ _
            rw [← hsz] at hg
            exact wpAny_pure ⟨rfl, fin mv hL hg (fun b o e => Heap.get?_push_of_some _ (Heap.get?_push_of_some _ e)) rfl rfl rfl (fun b hb => by rw [List.mem_singleton.mp hb, z1]; exact Nat.le_succ _) mv.gens⟩
      · cases r2 with
        | error e => exact hr2
        | ok fl2 =>
          cases fl2 with
          | ret r =>
            obtain ⟨rfl, h', tk, L, rfl, hL, hg, hk⟩ := hr2
            repeat (any_goals (first | assumption | wp_step))
            exact hQ _ _ _ hL hg hk
          | _ => exact hr2.elim
    | _ => exact hr.elim
end
end DL
/-! readings: len(set(x)), sorted(set(x)), x a text or a list of texts -/
namespace DL
open PySem PySem.Spec PyProof.Rows L2 Srt
/-- the texts that a value holds -/
def TxIn (K : PySem.W.Frag) (H : Hp) (v : V) (ss : List Str) : Prop := (∃ x : Str, v = .str x ∧ ss = x.cps.toList.map sing) ∨ ∃ a, v = .ref a ∧ SqL K H a (ss.map V.str)
def tLenSetX (K : PySem.W.Frag) (ta : TE) : TE := fun σ H Q => ta σ H fun v H1 => ∃ ss, TxIn K H1 v ss ∧ ss.length < 4000 ∧ ∀ L : List Str, L.Nodup → (∀ k, k ∈ L ↔ k ∈ ss) → Q (.int L.length) H1
def tSortedSetX (K : PySem.W.Frag) (ta : TE) : TE := fun σ H Q => ta σ H fun v H1 => ∃ ss, TxIn K H1 v ss ∧ ss.length < 4000 ∧ ∀ (L : List Str) (p : Addr), L.Nodup → (∀ k, k ∈ L ↔ k ∈ ss) → sortedS L = true → H1 p = none → Q (.ref p) (upd H1 p (.lst (L.map V.str)))
section
variable {P : Program} {w : World} {A : Around} {E : Value → Shared → Prop} {s : Shared} {a : Addr} {L : List Str}
theorem strs_txe : ∀ {vs : List Value} {ks : List Str}, (∀ v ∈ vs, ∃ k tk, v = Value.str k tk) → vs.map (fun v => match v with | .str k _ => k | _ => Str.empty) = ks → StrsAre vs ks
  | [], _, _, e => by subst e; exact .nil
  | v :: vs, ks, h, e => by
    subst e
    obtain ⟨k, tk, rfl⟩ := h v List.mem_cons_self
    exact .cons k tk (strs_txe (fun u hu => h u (List.mem_cons_of_mem _ hu)) rfl)
theorem sorted_setX {Q : Value → Shared → Prop} (R : TxSet P w s.heap a L) (few : L.length < 4000) (hh : A.handled = none)
    (hQ : ∀ s' p (out : Array Value) (c : Nat) (L' : List Str), (∀ b o, s.heap.get? b = some o → s'.heap.get? b = some o) → s'.gens = s.gens → s'.os = s.os → s.heap.objs.size ≤ p →
      s'.heap.get? p = some (seqObj "list" out c) → StrsAre out.toList L' → L'.Perm L → sortedS L' = true → Q (.ref p) s') :
    wpAny (model P w) A (call (.builtin "sorted") [.ref a]) Q E s := by
  obtain ⟨ob, es, ep, tb, e0, ex, ed, te, pm0, nd, bd, ft, rs, ld⟩ := R
  refine Calls.call_function_entry kind_sorted plain_sorted entry_sorted (args_sorted1 _) ?_
  unfold Builtin.«sorted»
  refine wpAny_bind (m := checkCount "sorted" 1 1 _) (wpAny_pure ?_)
  refine wpAny_bind (collect_set (A := A.in1) hh ⟨ob, e0, ex.1, ed⟩ ft bd rs ld fun s1 vs k1 hz g1 o1 pm => ?_)
  have hel : es.size = L.length := by rw [← Array.length_toList, ← List.length_map (f := txK), pm0.length_eq]
  have hvl : vs.length = L.length := by rw [pm.length_eq, List.length_map, Array.length_toList]; exact hel
  have hS : StrsAre vs (vs.map fun v => match v with | .str k _ => k | _ => Str.empty) := strs_txe (fun v hv => by
    obtain ⟨e, he, q⟩ := List.mem_map.mp (pm.mem_iff.mp hv)
    obtain ⟨k, tk, h1, _⟩ := te e he
    exact ⟨k, tk, by rw [← q]; exact h1⟩) rfl
  have pk : (vs.map fun v => match v with | .str k _ => k | _ => Str.empty).Perm L := by
    have q := pm.map fun v => match v with | .str k _ => k | _ => Str.empty
    rw [List.map_map] at q
    exact q.trans pm0
  have hsz : vs.length ≤ sizeLine := by rw [hvl, sizeLine_eq]; omega
  refine wpAny_bind (wpAny_newList ?_ hsz)
  have hoL : (s1.heap.push (seqObj "list" vs.toArray 0)).get? s1.heap.objs.size = some (seqObj "list" vs.toArray 0) := Heap.get?_push_size _ rfl
  refine wpAny_bind (wpAny_holding (wpAny_call_entry slot_list_sort ⟨_, hoL, rfl⟩ entry_list_sort (list_sort_treeKAny strKind_oneLt hoL hS.keysOf (fun v₁ v₂ rest e => keyKind_strs (by rw [← e]; exact hS)) hsz fun st' a1 a2 => ⟨_, rfl, ?_⟩) (args_list_sort _)))
  obtain ⟨ss', b1, b2, b3⟩ := sorted_out_str hS a1 a2
  obtain ⟨c, hc⟩ := sortedHeap_at (vs := vs) hoL
  refine wpAny_pure ⟨_, rfl, hQ _ s1.heap.objs.size _ c ss' (fun b u e => ?_) g1 o1 hz hc b1 (b2.trans pk) b3⟩
  have q := k1 b u e
  have hlt := Heap.lt_size q
  show (sortedHeap (s1.heap.push (seqObj "list" vs.toArray 0)) s1.heap.objs.size vs _).get? b = some u
  rw [sortedHeap_old (Nat.ne_of_lt hlt) (by rw [Heap.size_push]; exact Nat.lt_succ_of_lt hlt)]
  exact Heap.get?_push_of_some _ q
end
section
variable {X : Cx} {a : Expr} {ta : TE} {p p2 q pos : Pos}
theorem strs_of' : ∀ {ys : List Str} {us : List Value}, Vals (ys.map V.str) us → StrsAre us ys
  | [], _, .nil => .nil
  | y :: ys, _, .cons r t => by
    obtain ⟨k, rfl⟩ := r
    exact .cons y k (strs_of' t)
theorem pe_lenSetX (hc : X.calm = true) (hg : Gl X "len") (hm : X.mg "len" = none) (hg2 : Gl X "set") (hm2 : X.mg "set" = none) (ha : PE X a ta)
    (na : starEach [a] X.env = (false, eval a X.env) :: starEach [] X.env := by rfl) : PE X (.Call (.Name "len" p) [.Call (.Name "set" p2) [a] [] q] [] pos) (tLenSetX X.K ta) := by
  refine ⟨fun pins s σ H Q I h => ?_⟩
  refine Call_ (ld_blt I hg hm boot_len ?_)
  refine PyProof.Rows.callWith_builtin1 (PyProof.Rows.args_cons ?_ rfl) rfl rfl
  refine Call_ (ld_blt I hg2 hm2 boot_set ?_)
  refine PyProof.Rows.callWith_type1 (PyProof.Rows.args_cons (thn (ha.run pins s σ H _ I h) fun v s1 ⟨x, H1, I1, r1, q1⟩ => PyProof.Rows.args_nil ?_) na) na rfl
  obtain ⟨ss, hx, few, q1⟩ := q1
  refine call_set_tx (xs := ss) (I1.ok.hd hc) few ?_ fun h' tk L hS hL hk => ?_
  · rcases hx with ⟨z, rfl, rfl⟩ | ⟨l, rfl, hs⟩
    · obtain ⟨t, rfl⟩ := r1
      exact .inr ⟨z, t, rfl, rfl⟩
    · cases r1
      obtain ⟨its, r, pl, hz⟩ := I1.list hs
      exact .inl ⟨l, _, rfl, pl.isList, by simpa using strs_of' r⟩
  · refine PyProof.Rows.args_nil ?_
    have I2 : Inv X pins σ H1 { s1 with heap := h', toks := tk } := I1.kept hk
    obtain ⟨ob, es, ep, tb, e0, ex, ed, te, pm0, nd, bd, ft, rs, ld⟩ := hS
    have hel : es.size = L.length := by rw [← Array.length_toList, ← List.length_map (f := txK), pm0.length_eq]
    refine call_len_set e0 ex ed ft (by have : scanBound = 4096 := rfl; omega) ⟨.int L.length, H1, I2.tok _, ⟨_, by rw [hel]⟩, q1 L nd fun k => by rw [hL.m k, List.take_length]⟩
theorem pe_sortedSetX (hc : X.calm = true) (hg : Gl X "sorted") (hm : X.mg "sorted" = none) (hg2 : Gl X "set") (hm2 : X.mg "set" = none) (ha : PE X a ta)
    (na : starEach [a] X.env = (false, eval a X.env) :: starEach [] X.env := by rfl) : PE X (.Call (.Name "sorted" p) [.Call (.Name "set" p2) [a] [] q] [] pos) (tSortedSetX X.K ta) := by
  refine ⟨fun pins s σ H Q I h => ?_⟩
  refine Call_ (ld_blt I hg hm bt_sorted ?_)
  refine PyProof.Rows.callWith_builtin1 (PyProof.Rows.args_cons ?_ rfl) rfl rfl
  refine Call_ (ld_blt I hg2 hm2 boot_set ?_)
  refine PyProof.Rows.callWith_type1 (PyProof.Rows.args_cons (thn (ha.run pins s σ H _ I h) fun v s1 ⟨x, H1, I1, r1, q1⟩ => PyProof.Rows.args_nil ?_) na) na rfl
  obtain ⟨ss, hx, few, q1⟩ := q1
  refine call_set_tx (xs := ss) (I1.ok.hd hc) few ?_ fun h' tk L hS hL hk => ?_
  · rcases hx with ⟨z, rfl, rfl⟩ | ⟨l, rfl, hs⟩
    · obtain ⟨t, rfl⟩ := r1
      exact .inr ⟨z, t, rfl, rfl⟩
    · cases r1
      obtain ⟨its, r, pl, hz⟩ := I1.list hs
      exact .inl ⟨l, _, rfl, pl.isList, by simpa using strs_of' r⟩
  · refine PyProof.Rows.args_nil ?_
    have I2 : Inv X pins σ H1 { s1 with heap := h', toks := tk } := I1.kept hk
    have lL : L.length < 4000 := Nat.lt_of_le_of_lt hL.l few
    have nd : L.Nodup := by obtain ⟨_, _, _, _, _, _, _, _, _, nd, _⟩ := hS; exact nd
    refine sorted_setX hS lL (I2.ok.hd hc) fun s' p out c L' k g o hp hg b1 b2 b3 => ?_
    have hlen : (L'.map V.str).length ≤ sizeLine := by rw [List.length_map, b2.length_eq, sizeLine_eq]; omega
    have hn : H1 p = none := I2.hok.fresh hp
    have J : Inv X pins σ (upd H1 p (.lst (L'.map V.str))) s' :=
      I2.call' (ch := []) o (Un.laid k hp hn) (I2.hok.laid k hp ⟨hlen, out.toList, c, vals_of_strs b1, hg⟩) (by rw [g]; exact I2.bare) (fun _ z => nomatch z)
    exact ⟨.ref p, _, J, rfl, q1 L' p (b2.nodup_iff.mpr nd) (fun k => by rw [b2.mem_iff, hL.m k, List.take_length]) b3 hn⟩
end
section
variable {W : Wd} {G0 H0 G G' H H' : Hp} {E : XK} {X : Cx} {k n : Nat} {env : Env1} {σ : L2.St} {a : Expr} {fa : WE} {p p2 q pos : Pos}
def txD (d : D) (ss : List (List Nat)) : Prop := d = .lst (ss.map D.str) ∨ ∃ s : List Nat, d = .str s ∧ ss = s.map fun c => [c]
theorem tx_in {d : D} {v : V} {ss : List (List Nat)} (s1 : GOk W G H) (r : rep W.K G d v) (h : txD d ss) : TxIn W.K H v (ss.map zs) := by
  rcases h with rfl | ⟨s, rfl, rfl⟩
  · obtain ⟨p, xs, rfl, hs, r1⟩ := rep_lst r
    rw [reps_strs r1] at hs
    exact .inr ⟨p, rfl, SqL.at (s1.le _ _ hs)⟩
  · have e := rep_str r
    subst e
    refine .inl ⟨zs s, rfl, ?_⟩
    rw [zs_list, List.map_map]
    rfl
def wLenSet (w : WE) : WE := fun env Q Y => w env (fun d => ∃ ss, txD d ss ∧ ss.length < 4000 ∧ ∀ L : List (List Nat), L.Nodup → (∀ k, k ∈ L ↔ k ∈ ss) → Q (.int L.length)) Y
def wSortedSet (w : WE) : WL := fun env Q Y => w env (fun d => ∃ ss, txD d ss ∧ ss.length < 4000 ∧ ∀ L : List (List Nat), L.Nodup → (∀ k, k ∈ L ↔ k ∈ ss) → L.Pairwise leT → Q (L.map D.str)) Y
theorem zs_ls (x : Str) : zs x.cps.toList = x := zs_of x
theorem mem_zs {L : List Str} {ss : List (List Nat)} (h : ∀ k, k ∈ L ↔ k ∈ ss.map zs) (k : List Nat) : k ∈ L.map (fun x => x.cps.toList) ↔ k ∈ ss := by
  rw [List.mem_map]
  constructor
  · rintro ⟨x, hx, rfl⟩
    obtain ⟨s, hs, e⟩ := List.mem_map.mp ((h x).1 hx)
    rw [← e, zs_list]
    exact hs
  · intro hk
    exact ⟨zs k, (h _).2 (List.mem_map.mpr ⟨k, hk, rfl⟩), zs_list k⟩
theorem nodup_zs {L : List Str} (h : L.Nodup) : (L.map fun x => x.cps.toList).Nodup := by
  rw [List.nodup_iff_pairwise_ne] at *
  rw [List.pairwise_map]
  exact h.imp fun {a b} n e => n (by rw [← zs_of a, ← zs_of b, e])
theorem de_lenSet (hc : X.calm = true) (hg : Gl X "len") (hm : X.mg "len" = none) (hg2 : Gl X "set") (hm2 : X.mg "set" = none) (ha : DE W G0 H0 E X a fa) (hK : X.K = W.K := by rfl)
    (na : starEach [a] X.env = (false, eval a X.env) :: starEach [] X.env := by rfl) : DE W G0 H0 E X (.Call (.Name "len" p) [.Call (.Name "set" p2) [a] [] q] [] pos) (wLenSet fa) := by
  obtain ⟨ma, ta, pa, qa⟩ := ha
  refine ⟨fun env Q Q' Y z w => ma _ _ _ _ (fun d ⟨ss, e, f, w⟩ => ⟨ss, e, f, fun L n m => z _ (w L n m)⟩) w, _, pe_lenSetX hc hg hm hg2 hm2 pa na, fun env σ G H Q r w => ?_⟩
  refine qa env σ G H _ r (ma _ _ _ _ (fun d w => ?_) w)
  obtain ⟨ss, e, few, w⟩ := w
  intro v G1 H1 s1 r1
  refine ⟨ss.map zs, by rw [hK]; exact tx_in s1.gok r1 e, by rw [List.length_map]; exact few, fun L nd hm => ?_⟩
  have q := w (L.map fun x => x.cps.toList) (nodup_zs nd) (mem_zs hm)
  rw [List.length_map] at q
  exact QE.here s1.gok rep_int' (QE.step s1 q)
theorem df_sortedSet (hc : X.calm = true) (hg : Gl X "sorted") (hm : X.mg "sorted" = none) (hg2 : Gl X "set") (hm2 : X.mg "set" = none) (ha : DE W G0 H0 E X a fa) (hK : X.K = W.K := by rfl)
    (na : starEach [a] X.env = (false, eval a X.env) :: starEach [] X.env := by rfl) : DF W G0 H0 E X (.Call (.Name "sorted" p) [.Call (.Name "set" p2) [a] [] q] [] pos) (wSortedSet fa) := by
  obtain ⟨ma, ta, pa, qa⟩ := ha
  refine ⟨fun env Q Q' Y z w => ma _ _ _ _ (fun d ⟨ss, e, f, w⟩ => ⟨ss, e, f, fun L n m o => z _ (w L n m o)⟩) w, _, pe_sortedSetX hc hg hm hg2 hm2 pa na, fun env σ G H Q r w => ?_⟩
  refine qa env σ G H _ r (ma _ _ _ _ (fun d w => ?_) w)
  obtain ⟨ss, e, few, w⟩ := w
  intro v G1 H1 s1 r1
  refine ⟨ss.map zs, by rw [hK]; exact tx_in s1.gok r1 e, by rw [List.length_map]; exact few, fun L p nd hm hso hn => ?_⟩
  have q := w (L.map fun x => x.cps.toList) (nodup_zs nd) (mem_zs hm) (by
    have h2 := sortedS_all hso
    rw [List.pairwise_map]
    exact h2)
  refine QF.lst s1.gok ?_ (QF.step s1 q) p hn
  rw [List.map_map]
  exact reps_map (fun x => by unfold rep; show V.str x = V.str (zs x.cps.toList); rw [zs_of]) L
end
end DL
/-! the number of a set comprehension of texts -/
namespace DL
open PySem PySem.Spec PyProof.Rows L2
section
variable {X : Cx}
/-- one more key in the set at D -/
def kPut (P : Program) (w : World) (D : Addr) (y : V) (H : Hp) (Nx : Hp → Prop) : Prop :=
  ∃ (c : Key) (S : Key → Bool) (n : Nat), y = kV c ∧ H D = some (SetK P w D S n) ∧ n + 1 < scanBound ∧ Nx (upd H D (SetK P w D (fun j => S j || decide (j = c)) (if S c = true then n else n + 1)))
/-- what a turn owes -/
def kTurn (P : Program) (w : World) (D : Addr) (g : TG) (tt : TT) (te : TE) (σ0 : L2.St) (vs : List Nat) (Nx : Hp → Prop) (x : V) (H : Hp) : Prop :=
  g x σ0 H fun σ2 H2 => wipe σ2 vs = σ0 ∧ tt σ2 H2 fun b H3 => if b = true then te σ2 H3 fun y H4 => kPut P w D y H4 Nx else Nx H3
def tScK (P : Program) (w : World) (wi : TI) (g : TG) (tt : TT) (te : TE) (vs : List Nat) (R : Addr → Hp → Prop) : L2.St → Hp → Prop := fun σ H => wi σ H fun J H1 => ∀ D, H1 D = none →
  ∃ Wn : Nat → Nat → Hp → Prop, (∃ m, Wn 0 m (upd H1 D (SetK P w D (fun _ => false) 0))) ∧ ∀ i m H, Wn i m H →
    (J.stop i H ∧ R D H) ∨ (J.go i H ∧ ∃ Nx : Hp → Prop, (∀ H', Nx H' → ∃ m', m' < m ∧ Wn (i + 1) m' H') ∧ ∀ x H', J.yld i H x H' → kTurn P w D g tt te (wipe σ vs) vs Nx x H')
/-- set.add, in any block -/
theorem add_k {pins : List (Addr × Obj)} {σ : L2.St} {H : Hp} {s : Shared} {D : Addr} {y : V} {v : Value} {Q : Value → Shared → Prop} {E : Value → Shared → Prop} {Nx : Hp → Prop} (I : Inv X pins σ H s) (r : RelV y v) (h : kPut X.prog X.w D y H Nx)
    (q : ∀ s' H', Inv X pins σ H' s' → Nx H' → Q .none s') : wpAny (model X.prog X.w) X.A (call (.builtin "set.add") [.ref D, v]) Q E s := by
  obtain ⟨c, S, n, rfl, hD, room, nx⟩ := h
  refine call_set_add (kV_is r) (key_scan r) (setK_get I hD) room fun h' sb new => ?_
  have he : ∃ u, h'.get? D = some u := let ⟨o, _, _, _, ho, _⟩ := new; ⟨o, ho⟩
  exact q _ _ (I.write (e := D) (t' := s.toks + 1) (by rw [hD]; trivial) (.inl rfl) (fun b u hb hu => (sb.2 b hb).trans hu) he (setK_new new)) nx
theorem setK_nil {P : Program} {w : World} {hp : Heap} : (hp.push { cls := .type "set", dict := none, data := .set #[] 0 (.fresh 0 0 (!w.params.followText "set-order")) }).SetOf (mixKind P w) hp.objs.size (fun _ => false) 0 :=
  ⟨_, #[], 0, _, Heap.get?_push_size _ rfl, ⟨rfl, rfl, rfl⟩, rfl, (fun e he => by simp at he), (fun k => by simp), (by decide), (by rfl), rfl⟩
theorem comp_k {pins : List (Addr × Obj)} {s : Shared} {σ : L2.St} {H : Hp} {R : Addr → Hp → Prop} {elt tg iter : Expr} {ifs : List Expr} {scope : Scope} {own : List (Str × Nat)} {pos : Pos} {wi : TI} {g : TG} {tt : TT} {te : TE} {Qf : Value → Shared → Prop}
    (hc : X.calm = true) (hN : X.N.Nodup) (I : Inv X pins σ H s) (hi : PI X tg iter wi) (ok : BlkOk X.N X.env.scope scope own)
    (hg : ∀ (s : Shared) (H : Hp) (a : Addr) (cl : List (Str × Addr)) (fp : List Addr), PG (X.blk s H scope (compEnvC scope cl a X.env) fp) tg g)
    (ht : ∀ (s : Shared) (H : Hp) (a : Addr) (cl : List (Str × Addr)) (fp : List Addr), PTs (X.blk s H scope (compEnvC scope cl a X.env) fp) ifs tt)
    (he : ∀ (s : Shared) (H : Hp) (a : Addr) (cl : List (Str × Addr)) (fp : List Addr), PE (X.blk s H scope (compEnvC scope cl a X.env) fp) elt te) (hs : ∀ x, foldedSetIterable iter X.env x = pure x)
    (h : tScK X.prog X.w wi g tt te (own.map (·.2)) R σ H) (hQ : ∀ D s' H', Inv X pins σ H' s' → R D H' → Qf (.ref D) s') :
    wpAny (model X.prog X.w) X.A (eval (.SetComp elt [⟨tg, iter, ifs, 0⟩] scope pos) X.env) Qf X.xe s := by
  rw [PpSet.eval_SetComp]
  refine wpAny_comprehension_free (use := none) rfl hs (closure_ok fun y hy e => (ok.free y hy e).elim (fun k => I.ok.has _ (.inl k)) fun k => I.ok.has _ (.inr k)) ok.kind (fun y hy e => by rw [ok.uniq y hy, e])
    (thn (hi.run pins s σ H _ I h) fun _ s1 h1 => thn h1 fun itv s2 h2 => ?_)
  obtain ⟨it, fp, tn, J, H2, rfl, I2, T, st2, f2, q⟩ := h2
  refine PpSet.newSet_ok (newEnv_comp ?_)
  have hDn : H2 s2.heap.objs.size = none := I2.hok.fresh (Nat.le_refl _)
  obtain ⟨Wn, ⟨m0, w0⟩, turn⟩ := q _ hDn
  have atNew := setK_nil (P := X.prog) (w := X.w) (hp := s2.heap)
  have old : ∀ b o, s2.heap.get? b = some o → (s2.heap.push { cls := .type "set", dict := none, data := .set #[] 0 (.fresh 0 0 (!X.w.params.followText "set-order")) }).get? b = some o := fun b o e => Heap.get?_push_of_some _ e
  have szn : (s2.heap.push { cls := .type "set", dict := none, data := .set #[] 0 (.fresh 0 0 (!X.w.params.followText "set-order")) }).objs.size = s2.heap.objs.size + 1 := Heap.size_push ..
  generalize hD : s2.heap.objs.size = D at *
  generalize hh3 : s2.heap.push { cls := .type "set", dict := none, data := .set #[] 0 (.fresh 0 0 (!X.w.params.followText "set-order")) } = h3 at *
  have I3 : Inv X pins σ (upd H2 D (SetK X.prog X.w D (fun _ => false) 0)) { s2 with heap := h3 } := I2.laid (t' := s2.toks) old (Nat.le_of_eq hD) (setK_new atNew)
  generalize hH3 : upd H2 D (SetK X.prog X.w D (fun _ => false) 0) = H3 at *
  generalize hs3 : ({ s2 with heap := h3 } : Shared) = s3 at *
  have g3 : s3.heap = h3 := by rw [← hs3]
  have f3 : ∀ b ∈ fp, FpOk X pins H3 b ∧ b < s3.heap.objs.size := fun b hb => by
    obtain ⟨o, e, _⟩ := T.obj _ _ st2 b hb
    have hlt : b < D := by rw [← hD]; exact Heap.lt_size e
    refine ⟨⟨?_, (f2 b hb).2⟩, by rw [g3, szn]; exact Nat.lt_succ_of_lt hlt⟩
    rw [← hH3, upd_ne (Nat.ne_of_lt hlt)]
    exact (f2 b hb).1
  have st3 : tn 0 s3.heap := T.keep _ _ _ st2 fun b _ o e => by rw [g3]; exact old b o e
  have I4 := block_start I3 ok hN f3
  have pg := hg s3 H3 s3.heap.objs.size (cellsFrom (s3.heap.objs.size + 1) scope.names (cloFrom X.env.cells scope.names [])) fp
  have pt := ht s3 H3 s3.heap.objs.size (cellsFrom (s3.heap.objs.size + 1) scope.names (cloFrom X.env.cells scope.names [])) fp
  have pe := he s3 H3 s3.heap.objs.size (cellsFrom (s3.heap.objs.size + 1) scope.names (cloFrom X.env.cells scope.names [])) fp
  have nfp : ∀ b ∈ fp, H3 b = none := fun b hb => (f3 b hb).1.1
  show codeAny _ _ (.compStart (.SetComp elt [⟨tg, iter, ifs, 0⟩] scope pos) 0 (.ref it) (.ref D) (compEnvC scope (cellsFrom (s3.heap.objs.size + 1) scope.names (cloFrom X.env.cells scope.names [])) s3.heap.objs.size X.env)) (compPost (model X.prog X.w) X.A X.xe none Qf (.ref D) s3.heap.objs.size) { s3 with heap := pushCells (s3.heap.push { cls := .type "dict", data := .dict #[] }) scope.names }
  generalize hce : compEnvC scope (cellsFrom (s3.heap.objs.size + 1) scope.names (cloFrom X.env.cells scope.names [])) s3.heap.objs.size X.env = ce at I4 pg pt pe ⊢
  have cL : ce.locals = s3.heap.objs.size := by rw [← hce]; rfl
  generalize hs4 : ({ s3 with heap := pushCells (s3.heap.push { cls := .type "dict", data := .dict #[] }) scope.names } : Shared) = s4 at I4 ⊢
  have st4 : tn 0 s4.heap := T.keep _ _ _ st3 fun b _ o e => by rw [← hs4]; exact pushCells_keeps _ _ _ _ (Heap.get?_push_of_some _ e)
  have stay : ∀ {σ' : L2.St} {H' : Hp} {s' : Shared}, Inv (X.blk s3 H3 scope ce fp) [] σ' H' s' → (∀ b ∈ fp, H' b = none) → ∀ b ∈ fp, FpOk (X.blk s3 H3 scope ce fp) [] H' b := fun I' hn b hb =>
    ⟨hn b hb, (I'.ok.exf b hb).1, I'.ok.exfs b hb, .inl hb, fun x c e => (I'.ok.exf b hb).2 x c e, fun p hp => absurd (show p ∈ ([] : List (Addr × Obj)) ++ [] from hp) (by simp)⟩
  -- where the loop stands
  refine PpSet.codeAny_compStart_set ?loop (T.self X.A 0 _ _ _ st4 ?loop)
  refine PpSet.compLoopS_any (fun n s' => ∃ i H', Inv (X.blk s3 H3 scope ce fp) [] (wipe σ (own.map (·.2))) H' s' ∧ tn i s'.heap ∧ (∀ b ∈ fp, H' b = none) ∧ Wn i n H') ?_ m0 ⟨0, H3, I4, st4, nfp, w0⟩
  rintro n s5 ⟨i, H5, I5, st5, n5, w5⟩
  rcases turn i n H5 w5 with ⟨stop, qq⟩ | ⟨go, Nx, hNx, step⟩
  · -- its end: the block's things go
    refine thnF (T.done (X.blk s3 H3 scope ce fp) rfl rfl rfl hc i [] s5 _ H5 (fun _ _ => False) I5 (stay I5 n5) st5 stop) fun r s6 ⟨hr, I6⟩ => ?_
    subst hr
    have I7 : Inv X pins σ H5 s6 := I3.call' (ch := fp) I6.os I6.base I6.hok I6.bare fun b hb => ⟨(f3 b hb).1.2.2.2.1, (f3 b hb).1.2.1, (f3 b hb).1.2.2.2.2.1, (f3 b hb).1.2.2.2.2.2⟩
    have nC : H5 s3.heap.objs.size = none := cL ▸ I6.free
    obtain ⟨m, hn, _⟩ := I6.loc
    have hn : s6.heap.Ns s3.heap.objs.size m := cL ▸ hn
    obtain ⟨a0, a1, a2, a3, a4, a5⟩ := I3.fpOk (Nat.le_refl _) nC
    exact ⟨m, hn, fun h'' sb => hQ D _ H5 (I7.turned (t' := s6.toks) (fun b o hb e => (sb.2 b hb).trans e) a0 a1 a3 a4 a5) qq⟩
  · refine thnF (T.item (X.blk s3 H3 scope ce fp) rfl rfl rfl hc i [] s5 _ H5 (fun _ _ => False) I5 (stay I5 n5) st5 go) fun r s6 ⟨u, hr, h6⟩ => ?_
    subst hr
    refine thnF h6 fun _ s7 ⟨x, H7, I7, r7, y7, st7, n7⟩ => ?_
    refine thnF (pg.run _ s7 _ H7 x u _ (I7.pinned (stay I7 n7) (T.obj _ _ st7)) r7 (step x H7 y7)) fun _ s8 ⟨σ8, H8, I8, hw8, q8⟩ => ?_
    have back : ∀ {s' : Shared} {H' : Hp}, Inv (X.blk s3 H3 scope ce fp) ([] ++ pinsAt fp s7.heap) σ8 H' s' → Nx H' → ∃ m, m < n ∧ ∃ i H', Inv (X.blk s3 H3 scope ce fp) [] (wipe σ (own.map (·.2))) H' s' ∧ tn i s'.heap ∧ (∀ b ∈ fp, H' b = none) ∧ Wn i m H' := fun {s' H'} I' nx => by
      obtain ⟨m', hm, w'⟩ := hNx H' nx
      have kept : ∀ b ∈ fp, ∀ o, s7.heap.get? b = some o → s'.heap.get? b = some o ∧ H' b = none := fun b hb o e =>
        let z := I'.pin (b, o) (List.mem_append_right _ (List.mem_append_right _ (mem_pinsAt hb e)))
        ⟨z.1, z.2.1⟩
      refine ⟨m', hm, i + 1, H', (I'.unpinned (pins := [])).weak (by rw [← hw8, wipe_length]) (fun j v e => ?_), T.keep _ _ _ st7 fun b hb o e => (kept b hb o e).1, fun b hb => ?_, w'⟩
      · rw [← hw8] at e
        exact (wipe_some e).1
      · obtain ⟨o, e, _⟩ := T.obj _ _ st7 b hb
        exact (kept b hb o e).2
    refine thnF (pt.run _ s8 σ8 H8 _ I8 q8) fun b s9 ⟨H9, I9, q9⟩ => ?_
    cases b with
    | false =>
      simp only [Bool.false_eq_true, if_false] at q9 ⊢
      exact back I9 q9
    | true =>
      simp only [if_true] at q9 ⊢
      refine thnF (pe.run _ s9 σ8 H9 _ I9 q9) fun z s10 ⟨yv, H10, I10, r10, put⟩ => ?_
      exact add_k (X := X.blk s3 H3 scope ce fp) I10 r10 put fun s11 H11 I11 nx => back I11 nx
end
/-! ### a set is no code object -/
def fO (q : Str) : Obj := { cls := .type "int", data := .fields #[.none, .str q 0] }
theorem fHeap (q : Str) : ∀ n, ∃ h : Heap, h.objs.size = n ∧ (∀ b o, h.get? b = some o → o = fO q) ∧ ∀ b, b < n → h.get? b = some (fO q)
  | 0 => ⟨{}, rfl, fun b o e => by simp [Heap.get?] at e, fun b hb => absurd hb (Nat.not_lt_zero _)⟩
  | n + 1 => by
    obtain ⟨h, h1, h2, h3⟩ := fHeap q n
    refine ⟨h.push (fO q), by rw [Heap.size_push, h1], fun b o e => ?_, fun b hb => ?_⟩
    · rcases Heap.get?_push_cases e with ⟨_, z⟩ | z
      · exact z
      · exact h2 b o z
    · by_cases hb' : b < n
      · exact Heap.get?_push_of_some _ (h3 b hb')
      · have : b = h.objs.size := by omega
        rw [this]
        exact Heap.get?_push_size _ rfl
theorem setK_code {P : Program} {w : World} {D c : Addr} {S : Key → Bool} {n : Nat} {q : Str} : SetK P w D S n ≠ LamX.CodeO c q := fun z => by
  unfold SetK LamX.CodeO at z
  have e := HO.ext.inj z
  obtain ⟨h, _, h1, h2⟩ := fHeap q (c + 1)
  have y : ∃ (oc : Obj) (vs : Array Value) (t : Tok), h.get? c = some oc ∧ oc.data = .fields vs ∧ vs[1]? = some (.str q t) := ⟨fO q, _, 0, h2 c (Nat.lt_succ_self c), rfl, rfl⟩
  have f := congrFun e h
  rw [← f] at y
  obtain ⟨o, es, ep, t, ho, hx, hd, _⟩ := y
  rw [h1 _ _ ho] at hd
  cases hd
theorem setK_tbl {P : Program} {w : World} {D : Addr} {S : Key → Bool} {n : Nat} (ps : Array Value) : SetK P w D S n ≠ .tbl ps := fun z => by unfold SetK at z; cases z
section
variable {W : Wd} {G0 H0 G G' H H' : Hp} {E : XK} {X : Cx} {k n : Nat} {env : Env1} {σ : L2.St}
theorem WOk.chgK {P : Program} {w : World} {p : Addr} {S S' : Key → Bool} {n n' : Nat} (wo : WOk W H) (m : ¬ W.mem p) (hp : H p = Option.some (SetK P w p S n)) : WOk W (upd H p (SetK P w p S' n')) := by
  refine ⟨fun h q => ?_, fun q hq => ?_⟩
  · obtain ⟨n, cells, a, x, y, z, g1, g2, g3⟩ := wo.hand h q
    refine ⟨n, cells, a, x, y, z, ?_, ?_, g3⟩
    · rw [upd_ne (fun z => m (.inl ⟨h, q, .inl z.symm⟩))]; exact g1
    · rw [upd_ne (fun z => m (.inl ⟨h, q, .inr z.symm⟩))]; exact g2
  · obtain ⟨ps, g1, g2, g3⟩ := wo.tabs q hq
    refine ⟨ps, ?_, g2, fun pos cv hc => ?_⟩
    · rw [upd_ne (fun z => m (.inr ⟨q, hq, z.symm⟩))]; exact g1
    · obtain ⟨c, k1, k2⟩ := g3 pos cv hc
      refine ⟨c, k1, ?_⟩
      rw [upd_ne (fun z => ?_)]; exact k2
      rw [z, hp] at k2
      exact setK_code (Option.some.inj k2)
/-! ### len({..}) -/
def wTx (f : WE) : WE := fun env Q Y => f env (fun d => ∃ s : List Nat, d = .str s ∧ Q d) Y
def wLenSc (it : WL) (w : WG) (tt : WT) (te : WE) (vs : List Nat) : WE := fun env Q Y => it env (fun ds => ds.length < 4000 ∧ ∀ Y', lcRun w tt (wTx te) (wipeE env vs) ds (fun ys => ∀ L : List Str, L.Nodup → (∀ k, k ∈ L ↔ .str k.cps.toList ∈ ys) → Q (.int L.length)) Y') Y
theorem wTx_mono {f : WE} (m : Mono f) : Mono (wTx f) := fun env Q Q' Y z w => m _ _ _ _ (fun d ⟨s, e, q⟩ => ⟨s, e, z _ q⟩) w
def tLenSc (X : Cx) (wi : TI) (g : TG) (tt : TT) (te : TE) (vs : List Nat) : TE := fun σ H Q => tScK X.prog X.w wi g tt te vs (fun D H' => ∃ S n, H' D = some (SetK X.prog X.w D S n) ∧ Q (.int (n : Nat)) H') σ H
theorem pe_lenSc {elt tg iter : Expr} {ifs : List Expr} {scope : Scope} {own : List (Str × Nat)} {pos cpos p : Pos} {wi : TI} {g : TG} {tt : TT} {te : TE}
    (hc : X.calm = true) (hN : X.N.Nodup) (hln : Gl X "len") (hm : X.mg "len" = none) (hi : PI X tg iter wi) (ok : BlkOk X.N X.env.scope scope own)
    (hg : ∀ (s : Shared) (H : Hp) (a : Addr) (cl : List (Str × Addr)) (fp : List Addr), PG (X.blk s H scope (compEnvC scope cl a X.env) fp) tg g)
    (ht : ∀ (s : Shared) (H : Hp) (a : Addr) (cl : List (Str × Addr)) (fp : List Addr), PTs (X.blk s H scope (compEnvC scope cl a X.env) fp) ifs tt)
    (he : ∀ (s : Shared) (H : Hp) (a : Addr) (cl : List (Str × Addr)) (fp : List Addr), PE (X.blk s H scope (compEnvC scope cl a X.env) fp) elt te) (hs : ∀ x, foldedSetIterable iter X.env x = pure x)
    (na : starEach [.SetComp elt [⟨tg, iter, ifs, 0⟩] scope pos] X.env = (false, eval (.SetComp elt [⟨tg, iter, ifs, 0⟩] scope pos) X.env) :: starEach [] X.env := by rfl) :
    PE X (.Call (.Name "len" p) [.SetComp elt [⟨tg, iter, ifs, 0⟩] scope pos] [] cpos) (tLenSc X wi g tt te (own.map (·.2))) := by
  refine ⟨fun pins s σ H Q I h => ?_⟩
  refine Call_ (ld_blt I hln hm boot_len ?_)
  refine PyProof.Rows.callWith_builtin1 (PyProof.Rows.args_cons (comp_k hc hN I hi ok hg ht he hs h fun D s' H' I' q => PyProof.Rows.args_nil ?_) na) na rfl
  obtain ⟨S, n, hD, q⟩ := q
  obtain ⟨ob, es, ep, tb, e0, ex, ed, el, mem, bd, ft, en⟩ := setK_get I' hD
  refine call_len_set e0 ex ed ft (by have : scanBound = 4096 := rfl; omega) ⟨.int n, H', I'.tok _, ⟨_, by rw [en]⟩, q⟩
theorem de_lenSc {elt tg iter : Expr} {ifs : List Expr} {scope : Scope} {own : List (Str × Nat)} {pos cpos p : Pos} {fi : WL} {js : List Nat} {w : WG} {ft : WT} {fe : WE} (C : DC W E k X) (hln : Gl X "len") (hm : X.mg "len" = none) (ok : BlkOk X.N X.env.scope scope own)
    (hi : DI W G0 H0 E X tg iter fi) (hjs : ∀ j ∈ js, j ∈ own.map (·.2))
    (hg : ∃ g, (∀ (s : Shared) (H : Hp) (a : Addr) (cl : List (Str × Addr)) (fp : List Addr), PG (bx X scope s H a cl fp) tg g) ∧ (∀ env d (Q Q' : Env1 → Prop), (∀ e, Q e → Q' e) → w env d Q → w env d Q') ∧
      ∀ env σ G H v d (Q : L2.St → Hp → Prop), RelS W G0 H0 env σ G H → rep W.K G d v → w env d (fun env' => ∀ σ', RelS W G0 H0 env' σ' G H → (∀ vs : List Nat, (∀ j ∈ js, j ∈ vs) → wipe σ' vs = wipe σ vs) → Q σ' H) → g v σ H Q)
    (ht : ∃ t, (∀ (s : Shared) (H : Hp) (a : Addr) (cl : List (Str × Addr)) (fp : List Addr), PTs (bx X scope s H a cl fp) ifs t) ∧ Mono ft ∧ ∀ env σ G H Q, RelS W G0 H0 env σ G H → ft env (QT W G H Q) (XOk W G0 H0 E0) → t σ H Q)
    (he : ∃ t, (∀ (s : Shared) (H : Hp) (a : Addr) (cl : List (Str × Addr)) (fp : List Addr), PE (bx X scope s H a cl fp) elt t) ∧ Mono fe ∧ ∀ env σ G H Q, RelS W G0 H0 env σ G H → fe env (QE W G H Q) (XOk W G0 H0 E0) → t σ H Q)
    (na : starEach [.SetComp elt [⟨tg, iter, ifs, 0⟩] scope pos] X.env = (false, eval (.SetComp elt [⟨tg, iter, ifs, 0⟩] scope pos) X.env) :: starEach [] X.env := by rfl) :
    DE W G0 H0 E X (.Call (.Name "len" p) [.SetComp elt [⟨tg, iter, ifs, 0⟩] scope pos] [] cpos) (wLenSc fi w ft fe (own.map (·.2))) := by
  obtain ⟨mi, ⟨wi, pi, qi⟩, fs⟩ := hi
  obtain ⟨g, pg, mg, qg⟩ := hg
  obtain ⟨tt, pt, mt, qt⟩ := ht
  obtain ⟨te, pe, me, qe⟩ := he
  have me' : Mono (wTx fe) := wTx_mono me
  refine ⟨fun env Q Q' X z h => mi _ _ _ _ (fun ds ⟨l, h⟩ => ⟨l, fun X' => lcRun_mono mg mt me' ds _ _ (fun ys q L a b => z _ (q L a b)) (h X')⟩) h, _, pe_lenSc C.calm C.nd hln hm pi ok pg pt pe fs na, fun env σ G H Q r h => ?_⟩
  refine qi env σ G H _ r (mi _ _ _ _ (fun ds h => ?_) h)
  intro J G1 H1 s1 iok B hD
  have gD1 : G1 B = none := s1.gok.nn hD
  have sD : Gst W G1 H1 G1 (upd H1 B (SetK X.prog X.w B (fun _ => false) 0)) := Gst.hid s1.gok _ hD
  have hn0 : fr W H B := s1.frn hD
  obtain ⟨hl, hX⟩ := h
  have hrun := hX (XOk W G0 H0 E0)
  refine ⟨fun i m H' => ∃ (G' : Hp) (L : List Str) (S : Key → Bool) (es : List D), m = ds.length - i ∧ i ≤ ds.length ∧ Gst W G H G' H' ∧ Same G1 G' ∧ H' B = some (SetK X.prog X.w B S L.length) ∧ G' B = none ∧ L.length ≤ i ∧ L.Nodup ∧ (∀ k, S k = true ↔ ∃ x ∈ L, k = .inr x) ∧ (∀ k : Str, k ∈ L ↔ D.str k.cps.toList ∈ es) ∧
      lcRun w ft (wTx fe) (wipeE env (own.map (·.2))) (ds.drop i) (fun ys => ∀ L : List Str, L.Nodup → (∀ k, k ∈ L ↔ .str k.cps.toList ∈ es ++ ys) → QE W G H Q (.int L.length)) (XOk W G0 H0 E0),
    ⟨ds.length - 0, G1, [], fun _ => false, [], rfl, Nat.zero_le _, s1.trans sD, Same.refl _, upd_same, gD1, Nat.le_refl _, .nil, fun k => by simp, fun k => by simp, ?_⟩, ?_⟩
  · rw [List.drop_zero]
    exact hrun
  · rintro i m H' ⟨G', L, S, es, em, hle, st, sm, eD, gD, la, nd, hS, hL, hr⟩
    have r' := r.step st
    by_cases hi : i < ds.length
    · have gi : ds[i]? = some ds[i] := List.getElem?_eq_getElem hi
      rw [List.drop_eq_getElem_cons hi] at hr
      refine .inr ⟨iok.go G' H' i _ st.gok sm gi, fun H2 => ∃ (G2 : Hp) (L2 : List Str) (S2 : Key → Bool) (es2 : List D), Gst W G H G2 H2 ∧ Same G1 G2 ∧ H2 B = some (SetK X.prog X.w B S2 L2.length) ∧ G2 B = none ∧ L2.length ≤ i + 1 ∧ L2.Nodup ∧ (∀ k, S2 k = true ↔ ∃ x ∈ L2, k = .inr x) ∧ (∀ k : Str, k ∈ L2 ↔ D.str k.cps.toList ∈ es2) ∧
        lcRun w ft (wTx fe) (wipeE env (own.map (·.2))) (ds.drop (i + 1)) (fun ys => ∀ L : List Str, L.Nodup → (∀ k, k ∈ L ↔ .str k.cps.toList ∈ es2 ++ ys) → QE W G H Q (.int L.length)) (XOk W G0 H0 E0), fun H2 h => ?_, fun x H2 hy => ?_⟩
      · obtain ⟨G2, L2, S2, es2, a, b, c, d, e, f, g1, g2, h⟩ := h
        exact ⟨ds.length - (i + 1), by omega, G2, L2, S2, es2, rfl, hi, a, b, c, d, e, f, g1, g2, h⟩
      · obtain ⟨G2, s2, rp⟩ := iok.yld G' H' i _ x H2 st.gok sm gi hy
        have keepD : ∀ {Ga Ha Gb Hb : Hp}, GOk W Ga Ha → Gst W Ga Ha Gb Hb → Ha B = some (SetK X.prog X.w B S L.length) → Ga B = none → Hb B = some (SetK X.prog X.w B S L.length) ∧ Gb B = none := fun {Ga Ha Gb Hb} ga sa ea na => by
          refine ⟨sa.keep _ _ ea setK_tbl hn0.1, ?_⟩
          cases q : Gb B with
          | none => rfl
          | some o =>
            rcases sa.new _ _ q with z | z
            · rw [na] at z; cases z
            · exact (z.not ea setK_tbl).elim
        obtain ⟨eD2, gD2⟩ := keepD st.gok s2 eD gD
        have rw0 := (r'.step s2).wipe (own.map (·.2))
        refine qg _ _ G2 H2 x _ _ rw0 rp (mg _ _ _ _ (fun e h => ?_) hr)
        intro σ3 r3 hw3
        refine ⟨?_, ?_⟩
        · have e1 := hw3 (own.map (·.2)) hjs
          rw [e1]
          have : ∀ us vs : List Nat, (∀ u ∈ us, u ∈ vs) → L2.wipe (L2.wipe σ us) vs = L2.wipe σ vs := fun us vs => by
            induction us with
            | nil => intro _; rfl
            | cons u us ih =>
              intro hu
              show L2.wipe ((L2.wipe σ us).set u none) vs = _
              rw [wipe_set (hu u List.mem_cons_self)]
              exact ih fun a ha => hu a (List.mem_cons_of_mem _ ha)
          exact this _ _ fun _ h => h
        · refine qt e σ3 G2 H2 _ r3 (mt _ _ _ _ (fun b h => ?_) h)
          intro G3 H3 s3
          obtain ⟨eD3, gD3⟩ := keepD s2.gok s3 eD2 gD2
          have st3 : Gst W G H G3 H3 := st.trans (s2.trans s3)
          cases b with
          | true =>
            rw [if_pos rfl] at h ⊢
            refine qe e σ3 G3 H3 _ (r3.step s3) (me _ _ _ _ (fun y h => ?_) h)
            obtain ⟨tx, rfl, h⟩ := h
            intro v G4 H4 s4 rpy
            obtain ⟨eD4, gD4⟩ := keepD s3.gok s4 eD3 gD3
            have st4 : Gst W G H G4 H4 := st3.trans s4
            have sm4 : Same G' G4 := (s2.le.trans s3.le).trans s4.le
            have ev : v = .str (zs tx) := rep_str rpy
            subst ev
            have st5 : ∀ S' n', Gst W G H G4 (upd H4 B (SetK X.prog X.w B S' n')) := fun S' n' => by
              refine ⟨⟨fun b o z => ?_, WOk.chgK st4.gok.w hn0.1 eD4, st4.gok.nm, st4.gok.tb⟩, st4.le, st4.new, fun a o z t n => ?_⟩
              · rw [upd_ne (fun q => by rw [q, gD4] at z; cases z)]; exact st4.gok.le b o z
              · rw [upd_ne (fun q => by subst q; exact hn0.not z t)]; exact st4.keep a o z t n
            have ez : (zs tx).cps.toList = tx := by simp [zs]
            have hr2 : lcRun w ft (wTx fe) (wipeE env (own.map (·.2))) (ds.drop (i + 1)) (fun ys => ∀ L : List Str, L.Nodup → (∀ k, k ∈ L ↔ .str k.cps.toList ∈ (es ++ [.str tx]) ++ ys) → QE W G H Q (.int L.length)) (XOk W G0 H0 E0) :=
              lcRun_mono mg mt me' _ _ _ (fun ys h L n1 n2 => h L n1 fun k => by rw [n2 k, List.append_assoc]; rfl) h
            by_cases hk : zs tx ∈ L
            · have sk : S (.inr (zs tx)) = true := (hS _).mpr ⟨_, hk, rfl⟩
              refine ⟨.inr (zs tx), S, L.length, rfl, eD4, by have : scanBound = 4096 := rfl; omega, G4, L, fun j => S j || decide (j = .inr (zs tx)), es ++ [.str tx], st5 _ _, sm.trans sm4, ?_, gD4, by omega, nd, fun k => ?_, fun k => ?_, hr2⟩
              · rw [if_pos sk]; exact upd_same
              · rw [Bool.or_eq_true, decide_eq_true_iff]
                exact ⟨fun z => z.elim (hS k).mp fun z => ⟨_, hk, z⟩, fun z => .inl ((hS k).mpr z)⟩
              · rw [hL k, List.mem_append, List.mem_singleton]
                refine ⟨.inl, fun z => z.elim id fun z => ?_⟩
                have : k = zs tx := by
                  have e := D.str.inj z
                  rw [← zs_ls k, e]
                rw [this]
                exact (hL _).mp hk
            · have sk : ¬ S (.inr (zs tx)) = true := fun z => by
                obtain ⟨x, hx, e⟩ := (hS _).mp z
                cases e
                exact hk hx
              refine ⟨.inr (zs tx), S, L.length, rfl, eD4, by have : scanBound = 4096 := rfl; omega, G4, zs tx :: L, fun j => S j || decide (j = .inr (zs tx)), es ++ [.str tx], st5 _ _, sm.trans sm4, ?_, gD4, by rw [List.length_cons]; omega, List.nodup_cons.mpr ⟨hk, nd⟩, fun k => ?_, fun k => ?_, hr2⟩
              · rw [if_neg sk]; exact upd_same
              · rw [Bool.or_eq_true, decide_eq_true_iff, hS k]
                constructor
                · rintro (⟨x, hx, e⟩ | e)
                  · exact ⟨x, List.mem_cons_of_mem _ hx, e⟩
                  · exact ⟨_, List.mem_cons_self, e⟩
                · rintro ⟨x, hx, e⟩
                  rcases List.mem_cons.mp hx with z | z
                  · exact .inr (by rw [e, z])
                  · exact .inl ⟨x, z, e⟩
              · rw [List.mem_cons, hL k, List.mem_append, List.mem_singleton]
                constructor
                · rintro (z | z)
                  · exact .inr (by rw [z, ez])
                  · exact .inl z
                · rintro (z | z)
                  · exact .inr z
                  · exact .inl (by have e := D.str.inj z; rw [← zs_ls k, e])
          | false =>
            rw [if_neg Bool.false_ne_true] at h ⊢
            exact ⟨G3, L, S, es, st3, sm.trans (s2.le.trans s3.le), eD3, gD3, by omega, nd, hS, hL, h⟩
    · have e0 : ds.drop i = [] := List.drop_eq_nil_of_le (by omega)
      rw [e0] at hr
      have hr' := hr L nd (fun k => by rw [hL k, List.append_nil])
      exact .inl ⟨iok.stop G' H' i st.gok sm (by omega), S, L.length, eD, hr' _ G' H' st rep_int'⟩
theorem de_lenScC {elt tg iter : Expr} {ifs : List Expr} {scope : Scope} {own : List (Str × Nat)} {pos cpos p : Pos} {fi : WL} {js : List Nat} {w : WG} {ft : WT} {fe : WE} (C : DC W E k X) (hln : Gl X "len") (hm : X.mg "len" = none) (ok : BlkOk X.N X.env.scope scope own)
    (hi : DI W G0 H0 E X tg iter fi) (hjs : ∀ j ∈ js, j ∈ own.map (·.2))
    (hg : ∀ (s : Shared) (H : Hp) (a : Addr) (cl : List (Str × Addr)) (fp : List Addr), DG W G0 H0 (bx X scope s H a cl fp) tg js w)
    (ht : ∀ (s : Shared) (H : Hp) (a : Addr) (cl : List (Str × Addr)) (fp : List Addr), DC W E0 k (bx X scope s H a cl fp) → DTs W G0 H0 E0 (bx X scope s H a cl fp) ifs ft)
    (he : ∀ (s : Shared) (H : Hp) (a : Addr) (cl : List (Str × Addr)) (fp : List Addr), DC W E0 k (bx X scope s H a cl fp) → DE W G0 H0 E0 (bx X scope s H a cl fp) elt fe)
    (na : starEach [.SetComp elt [⟨tg, iter, ifs, 0⟩] scope pos] X.env = (false, eval (.SetComp elt [⟨tg, iter, ifs, 0⟩] scope pos) X.env) :: starEach [] X.env := by rfl) :
    DE W G0 H0 E X (.Call (.Name "len" p) [.SetComp elt [⟨tg, iter, ifs, 0⟩] scope pos] [] cpos) (wLenSc fi w ft fe (own.map (·.2))) := by
  have he0 := he {} (fun _ => none) (0 : Nat) [] [] (C.blk _ _ _ _ _ _)
  have ht0 := ht {} (fun _ => none) (0 : Nat) [] [] (C.blk _ _ _ _ _ _)
  have hg0 := hg {} (fun _ => none) (0 : Nat) [] []
  exact de_lenSc C hln hm ok hi hjs ⟨_, fun s H a cl fp => (hg s H a cl fp).can, hg0.mono, fun env σ G H v d Q r rp w => ⟨env, G, d, r, rp, w⟩⟩
    ⟨_, fun s H a cl fp => (ht s H a cl fp (C.blk _ _ _ _ _ _)).can, ht0.mono, fun env σ G H Q r w => ⟨env, G, r, w⟩⟩
    ⟨_, fun s H a cl fp => (he s H a cl fp (C.blk _ _ _ _ _ _)).can, he0.mono, fun env σ G H Q r w => ⟨env, G, r, w⟩⟩ na
end
end DL
/-! zip of three -/
namespace DL
open PySem PySem.Spec PyProof.Rows L2
def It3 (K : PySem.W.Frag) (r1 r2 r3 : Src) (xs ys zs' : List V) : It :=
  ⟨fun i H => r1.has K H xs ∧ r2.has K H ys ∧ r3.has K H zs' ∧ i < xs.length ∧ i < ys.length ∧ i < zs'.length,
    fun i H v H' => ∃ T x y u, v = .ref T ∧ H T = none ∧ H' = upd H T (.tup [x, y, u]) ∧ xs[i]? = some x ∧ ys[i]? = some y ∧ zs'[i]? = some u,
    fun i H => r1.has K H xs ∧ r2.has K H ys ∧ r3.has K H zs' ∧ (xs.length ≤ i ∨ ys.length ≤ i ∨ zs'.length ≤ i)⟩
structure ZDist3 (z TI TO i1 i2 i3 : Addr) : Prop where
  TIz : TI ≠ z
  TOz : TO ≠ z
  i1z : i1 ≠ z
  i2z : i2 ≠ z
  i3z : i3 ≠ z
  TITO : TI ≠ TO
  TIi1 : TI ≠ i1
  TIi2 : TI ≠ i2
  TIi3 : TI ≠ i3
  TOi1 : TO ≠ i1
  TOi2 : TO ≠ i2
  TOi3 : TO ≠ i3
  i12 : i1 ≠ i2
  i13 : i1 ≠ i3
  i23 : i2 ≠ i3
theorem zdist3 (N : Nat) : ZDist3 (N + 5) (N + 3) (N + 4) N (N + 1) (N + 2) := by constructor <;> (refine neNat ?_; omega)
theorem turn_zip3 {P : Program} {w : World} {K : PySem.W.Frag} {elts : List Expr} {kk : Nat} {tpos : Pos} {z TI TO i1 i2 i3 : Addr} {r1 r2 r3 : Src} {xs ys us : List V} (D : ZDist3 z TI TO i1 i2 i3) :
    Turn P w K (.Tuple elts kk tpos) (It3 K r1 r2 r3 xs ys us) [z, TI, TO, i1, i2, i3] z
      (fun i h => IsZip h z TI TO .none ∧ IsTupOf3 h TI (.ref i1) (.ref i2) (.ref i3) ∧ (∃ x y u, IsTupOf3 h TO x y u) ∧ r1.its h i1 i ∧ r2.its h i2 i ∧ r3.its h i3 i ∧ i ≤ xs.length ∧ i ≤ ys.length ∧ i ≤ us.length) where
  mem := by simp
  obj := fun i h st c hc => by
    obtain ⟨hz, hTI, ⟨x, y, u, hTO⟩, s1, s2, s3, _⟩ := st
    obtain ⟨o1, _, _, e1, _, d1, _⟩ := Src.its_obj s1
    obtain ⟨o2, _, _, e2, _, d2, _⟩ := Src.its_obj s2
    obtain ⟨o3, _, _, e3, _, d3, _⟩ := Src.its_obj s3
    have e' : c = z ∨ c = TI ∨ c = TO ∨ c = i1 ∨ c = i2 ∨ c = i3 := by simpa using hc
    rcases e' with q | q | q | q | q | q
    · rw [q]; exact ⟨_, hz, fun v q => nomatch q⟩
    · rw [q]; exact ⟨_, hTI, fun v q => nomatch q⟩
    · rw [q]; exact ⟨_, hTO, fun v q => nomatch q⟩
    · rw [q]; exact ⟨o1, e1, fun v q => by rw [d1] at q; cases q⟩
    · rw [q]; exact ⟨o2, e2, fun v q => by rw [d2] at q; cases q⟩
    · rw [q]; exact ⟨o3, e3, fun v q => by rw [d3] at q; cases q⟩
  keep := fun i h h' st k => by
    obtain ⟨hz, hTI, ⟨x, y, u, hTO⟩, h1, h2, h3, l⟩ := st
    exact ⟨k z (by simp) _ hz, k TI (by simp) _ hTI, ⟨x, y, u, k TO (by simp) _ hTO⟩, Src.its_at h1 fun o q => k i1 (by simp) o q, Src.its_at h2 fun o q => k i2 (by simp) o q, Src.its_at h3 fun o q => k i3 (by simp) o q, l⟩
  item := by
    intro X hP hw hK hc i pins s σ H E I hf st hg
    subst hP hw hK
    obtain ⟨hz, hTI, ⟨x0, y0, u0, hTO⟩, st1, st2, st3, _⟩ := st
    obtain ⟨a1, a2, a3, l1, l2, l3⟩ := hg
    have hA : X.A.in1.handled = none := I.ok.hd hc
    obtain ⟨fp1, P1, S1, D1, b1, m1, f1, p1, q1⟩ := Src.draws (A := X.A.in1) hA I a1 st1 (hf i1 (by simp))
    obtain ⟨fp2, P2, S2, D2, b2, m2, f2, p2, q2⟩ := Src.draws (A := X.A.in1) hA I a2 st2 (hf i2 (by simp))
    obtain ⟨fp3, P3, S3, D3, b3, m3, f3, p3, q3⟩ := Src.draws (A := X.A.in1) hA I a3 st3 (hf i3 (by simp))
    have nf : ∀ {c it : Addr} {fp : List Addr}, (∀ b ∈ fp, b = it ∨ ∀ c, FpOk X pins H c → c ≠ b) → FpOk X pins H c → c ≠ it → c ∉ fp := fun hfp fc n hm => by
      rcases hfp _ hm with e | e
      · exact n e
      · exact e _ fc rfl
    have SZ : ZipSep3 z TI TO i1 i2 i3 fp1 fp2 fp3 := ⟨D.TIz, D.TOz, D.TITO, D.TIi1, m1, nf f1 (hf z (by simp)) (Ne.symm D.i1z), nf f1 (hf TO (by simp)) D.TOi1, D.TIi2, m2, nf f2 (hf z (by simp)) (Ne.symm D.i2z), nf f2 (hf TO (by simp)) D.TOi2, D.TIi3, m3, nf f3 (hf z (by simp)) (Ne.symm D.i3z), nf f3 (hf TO (by simp)) D.TOi3,
      nf f2 (hf i1 (by simp)) D.i12, nf f3 (hf i1 (by simp)) D.i13, nf f1 (hf i2 (by simp)) (Ne.symm D.i12), nf f3 (hf i2 (by simp)) D.i23, nf f1 (hf i3 (by simp)) (Ne.symm D.i13), nf f2 (hf i3 (by simp)) (Ne.symm D.i23)⟩
    have hzl : z < s.heap.objs.size := Heap.lt_size hz
    refine wpAny_pyNext_zipD3_item SZ D1 D2 D3 hz hTI hTO b1 b2 b3 l1 l2 l3 fun u1 u2 u3 h' tk y1 y2 y3 z' TO' c1 c2 c3 hT hsz hk => ?_
    obtain ⟨x, ex, rx⟩ := p1 _ _ y1
    obtain ⟨y, ey, ry⟩ := p2 _ _ y2
    obtain ⟨u, eu, ru⟩ := p3 _ _ y3
    refine ⟨_, rfl, wpAny_letOwnedTupleGo_zip (s := { s with heap := h', toks := tk }) z' fun h'' z'' sb => ?_⟩
    have hT2 : h''.get? s.heap.objs.size = some { cls := .type "tuple", data := .seq #[u1, u2, u3] } := (sb.2 _ (Nat.ne_of_gt hzl)).trans hT
    have new : ObjOk X.prog X.w (upd H s.heap.objs.size (.tup [x, y, u])) h'' s.heap.objs.size (.tup [x, y, u]) :=
      ⟨by show 3 ≤ sizeLine; decide, [u1, u2, u3], .cons rx (.cons ry (.cons ru .nil)), ⟨_, hT2, rfl, _, rfl⟩⟩
    have I1 : L2.Inv X pins σ (upd H s.heap.objs.size (.tup [x, y, u])) { s with heap := h'', toks := tk } :=
      I.turnedNew (ch := [z, TI, TO, i1, i2, i3]) (fun c o hb q => (sb.2 c (fun q' => hb (by simp [q']))).trans (hk c o (fun q' => hb (by simp [q'])) (fun q' => hb (by simp [q'])) (fun q' => hb (by simp [q'])) (fun q' => hb (by simp [q'])) (fun q' => hb (by simp [q'])) q)) hf (Nat.le_refl _) new
    refine ⟨.ref s.heap.objs.size, _, I1, rfl, ⟨_, x, y, u, rfl, I.hok.fresh (Nat.le_refl _), rfl, ex, ey, eu⟩, ⟨z'', ?_, ⟨u1, u2, u3, ?_⟩, ?_, ?_, ?_, l1, l2, l3⟩, fun c hcm => ?_⟩
    · exact (sb.2 _ D.TIz).trans (hk _ _ D.TIz D.TITO D.TIi1 D.TIi2 D.TIi3 hTI)
    · exact (sb.2 _ D.TOz).trans TO'
    · exact Src.its_at (q1 _ _ c1) fun o q => (sb.2 _ D.i1z).trans q
    · exact Src.its_at (q2 _ _ c2) fun o q => (sb.2 _ D.i2z).trans q
    · exact Src.its_at (q3 _ _ c3) fun o q => (sb.2 _ D.i3z).trans q
    · have hlt : c < s.heap.objs.size := by
        have e' : c = z ∨ c = TI ∨ c = TO ∨ c = i1 ∨ c = i2 ∨ c = i3 := by simpa using hcm
        obtain ⟨o1, _, _, e1, _⟩ := Src.its_obj st1
        obtain ⟨o2, _, _, e2, _⟩ := Src.its_obj st2
        obtain ⟨o3, _, _, e3, _⟩ := Src.its_obj st3
        rcases e' with q | q | q | q | q | q
        · rw [q]; exact hzl
        · rw [q]; exact Heap.lt_size hTI
        · rw [q]; exact Heap.lt_size hTO
        · rw [q]; exact Heap.lt_size e1
        · rw [q]; exact Heap.lt_size e2
        · rw [q]; exact Heap.lt_size e3
      rw [upd_ne (Nat.ne_of_lt hlt)]
      exact (hf c hcm).1
  done := by
    intro X hP hw hK hc i pins s σ H E I hf st hg
    subst hP hw hK
    obtain ⟨hz, hTI, ⟨x0, y0, u0, hTO⟩, st1, st2, st3, l1, l2, l3⟩ := st
    obtain ⟨a1, a2, a3, hend⟩ := hg
    have hA : X.A.in1.handled = none := I.ok.hd hc
    obtain ⟨fp1, P1, S1, D1, b1, m1, f1, p1, q1⟩ := Src.draws (A := X.A.in1) hA I a1 st1 (hf i1 (by simp))
    obtain ⟨fp2, P2, S2, D2, b2, m2, f2, p2, q2⟩ := Src.draws (A := X.A.in1) hA I a2 st2 (hf i2 (by simp))
    obtain ⟨fp3, P3, S3, D3, b3, m3, f3, p3, q3⟩ := Src.draws (A := X.A.in1) hA I a3 st3 (hf i3 (by simp))
    have nf : ∀ {c it : Addr} {fp : List Addr}, (∀ b ∈ fp, b = it ∨ ∀ c, FpOk X pins H c → c ≠ b) → FpOk X pins H c → c ≠ it → c ∉ fp := fun hfp fc n hm => by
      rcases hfp _ hm with e | e
      · exact n e
      · exact e _ fc rfl
    have SZ : ZipSep3 z TI TO i1 i2 i3 fp1 fp2 fp3 := ⟨D.TIz, D.TOz, D.TITO, D.TIi1, m1, nf f1 (hf z (by simp)) (Ne.symm D.i1z), nf f1 (hf TO (by simp)) D.TOi1, D.TIi2, m2, nf f2 (hf z (by simp)) (Ne.symm D.i2z), nf f2 (hf TO (by simp)) D.TOi2, D.TIi3, m3, nf f3 (hf z (by simp)) (Ne.symm D.i3z), nf f3 (hf TO (by simp)) D.TOi3,
      nf f2 (hf i1 (by simp)) D.i12, nf f3 (hf i1 (by simp)) D.i13, nf f1 (hf i2 (by simp)) (Ne.symm D.i12), nf f3 (hf i2 (by simp)) D.i23, nf f1 (hf i3 (by simp)) (Ne.symm D.i13), nf f2 (hf i3 (by simp)) (Ne.symm D.i23)⟩
    exact wpAny_pyNext_zipD3_end SZ D1 D2 D3 hz hTI hTO b1 b2 b3 l1 l2 l3 (by omega) fun h' tk hk => ⟨rfl, I.turnedL (t' := tk) (ch := [z, TI, TO, i1, i2, i3]) (fun c o hb q =>
      hk c o (fun q' => hb (by simp [q'])) (fun q' => hb (by simp [q'])) (fun q' => hb (by simp [q'])) (fun q' => hb (by simp [q'])) (fun q' => hb (by simp [q'])) q) hf⟩
  self := fun A i s Q E st h => wpAny_pyIter_zip st.1 h
def iZip3 (K : PySem.W.Frag) (ta : TA) : TI := fun σ H R => ta σ H fun vs H1 => ∃ v1 v2 v3 xs ys us, vs = [v1, v2, v3] ∧ srcOf K H1 v1 (fun r1 => srcOf K H1 v2 (fun r2 => srcOf K H1 v3 (fun r3 => R (It3 K r1 r2 r3 xs ys us) H1) us) ys) xs
theorem pi_zip3 {X : Cx} {e e2 e3 : Expr} {ta : TA} {p pos tpos : Pos} {elts : List Expr} {kk : Nat} (hg : Gl X "zip") (hm : X.mg "zip" = none) (ha : PA X [e, e2, e3] ta)
    (hs : starEach [e, e2, e3] X.env = (false, eval e X.env) :: starEach [e2, e3] X.env := by rfl) (hpl : (backTo pos (starEach [e2, e3] X.env)).any (·.1) = false := by rfl) :
    PI X (.Tuple elts kk tpos) (.Call (.Name "zip" p) [e, e2, e3] [] pos) (iZip3 X.K ta) := by
  refine ⟨fun pins s σ H R I h => ?_⟩
  refine Call_ (ld_blt I hg hm PyProof.Rows.boot_zip (PyProof.Rows.callWith_type1 (thn (ha.run pos pins s σ H _ I h) fun us s1 ⟨vs, H1, I1, r1, q1⟩ => ?_) hs hpl))
  obtain ⟨v1, v2, v3, xs, ys, zs', ex, hq⟩ := q1
  subst ex
  cases r1 with
  | cons ra rr =>
    cases rr with
    | cons rb rr =>
      cases rr with
      | cons rc rr =>
      cases rr
      obtain ⟨s1r, hr2, has1, o1, HH1, B1, hh1, k1⟩ := begins_of I1 ra hq
      obtain ⟨s2r, hr3, has2, o2, HH2, B2, hh2, k2⟩ := begins_of I1 rb hr2
      obtain ⟨s3r, q, has3, o3, HH3, B3, hh3, k3⟩ := begins_of I1 rc hr3
      refine zip_begins3 B1 B2 B3 hh1 hh2 hh3 fun h' hz hTI hTO g1 g2 g3 hsz hk => wpAny_pyIter_zip hz ?_
      have I2 : L2.Inv X pins σ H1 { s1 with heap := h' } := I1.kept (t' := s1.toks) hk
      refine ⟨s1.heap.objs.size + 5, [s1.heap.objs.size + 5, s1.heap.objs.size + 3, s1.heap.objs.size + 4, s1.heap.objs.size, s1.heap.objs.size + 1, s1.heap.objs.size + 2], _, _, H1, rfl, I2,
        turn_zip3 (zdist3 _), ⟨hz, hTI, ⟨_, _, _, hTO⟩, k1 _ _ g1, k2 _ _ g2, k3 _ _ g3, Nat.zero_le _, Nat.zero_le _, Nat.zero_le _⟩, fun c hcm => ?_, q⟩
      have e' : c = s1.heap.objs.size + 5 ∨ c = s1.heap.objs.size + 3 ∨ c = s1.heap.objs.size + 4 ∨ c = s1.heap.objs.size ∨ c = s1.heap.objs.size + 1 ∨ c = s1.heap.objs.size + 2 := by simpa using hcm
      have hle : s1.heap.objs.size ≤ c := by
        rcases e' with z | z | z | z | z | z
        · rw [z]; exact Nat.le_add_right _ _
        · rw [z]; exact Nat.le_add_right _ _
        · rw [z]; exact Nat.le_add_right _ _
        · rw [z]; exact Nat.le_refl _
        · rw [z]; exact Nat.le_add_right _ _
        · rw [z]; exact Nat.le_add_right _ _
      exact I1.fpOk hle (I1.hok.fresh hle)
section
variable {W : Wd} {G0 H0 G G' H H' : Hp} {E : XK} {X : Cx} {k n : Nat} {env : Env1} {σ : L2.St}
def zip3D (xs ys us : List D) : List D := (xs.zip (ys.zip us)).map fun p => D.tup [p.1, p.2.1, p.2.2]
def wZip3 (f g h : WE) : WL := fun env Q Y => f env (fun a => g env (fun b => h env (fun c => itemsD a (fun xs => itemsD b (fun ys => itemsD c (fun us => Q (zip3D xs ys us))))) Y) Y) Y
theorem di_zip3 {elts : List Expr} {kk : Nat} {tpos : Pos} {a b c : Expr} {f g h : WE} {p pos : Pos} (B : DB0 W X) (hg : Gl X "zip") (hm : X.mg "zip" = none) (ha : DE W G0 H0 E X a f) (hb : DE W G0 H0 E X b g) (hc : DE W G0 H0 E X c h)
    (hs : starEach [a, b, c] X.env = (false, eval a X.env) :: starEach [b, c] X.env := by rfl) (hs2 : starEach [b, c] X.env = (false, eval b X.env) :: starEach [c] X.env := by rfl) (hs3 : starEach [c] X.env = (false, eval c X.env) :: starEach [] X.env := by rfl) (hpl : (backTo pos (starEach [b, c] X.env)).any (·.1) = false := by rfl)
    (fs : ∀ x, foldedSetIterable (.Call (.Name "zip" p) [a, b, c] [] pos) X.env x = pure x := by intro _; rfl) : DI W G0 H0 E X (.Tuple elts kk tpos) (.Call (.Name "zip" p) [a, b, c] [] pos) (wZip3 f g h) := by
  obtain ⟨m, t, pt, q⟩ := ha
  obtain ⟨m', t', pt', q'⟩ := hb
  obtain ⟨m2, t2, pt2, q2⟩ := hc
  refine ⟨fun env Q Q' Y z w => m _ _ _ _ (fun d w => m' _ _ _ _ (fun d' w => m2 _ _ _ _ (fun d2 w => itemsD_mono (fun xs w => itemsD_mono (fun ys w => itemsD_mono (fun us w => z _ w) w) w) w) w) w) w, ⟨_, pi_zip3 hg hm (pa_cons pt (pa_cons pt' (pa_cons pt2 pa_nil hs3) hs2) hs) hs hpl, fun env σ G H R r w => ?_⟩,
    fs⟩
  refine q env σ G H _ r (m _ _ _ _ (fun d w => ?_) w)
  intro v G1 H1 s1 rp
  refine q' env σ G1 H1 _ (r.step s1) (m' _ _ _ _ (fun d' w => ?_) w)
  intro u G2 H2 s2 rp2
  refine q2 env σ G2 H2 _ ((r.step s1).step s2) (m2 _ _ _ _ (fun d2 w => ?_) w)
  intro u3 G3 H3 s3 rp3
  have rp1 := rep_mono s3.le _ _ (rep_mono s2.le _ _ rp)
  have rp2 := rep_mono s3.le _ _ rp2
  have st := s1.trans (s2.trans s3)
  obtain ⟨ds, xs, w1, h1⟩ := src_items (X := X) B.hK s3.gok rp1 w (Rr := fun ds xs sr => ds.length = xs.length ∧ reps W.K G3 ds xs ∧ ∀ G' H', GOk W G' H' → Same G3 G' → sr.has X.K H' xs) fun ds xs sr _ r1 h => ⟨r1.length.symm, r1, h⟩
  obtain ⟨es, ys, w2, h2⟩ := src_items (X := X) B.hK s3.gok rp2 w1 (Rr := fun ds xs sr => ds.length = xs.length ∧ reps W.K G3 ds xs ∧ ∀ G' H', GOk W G' H' → Same G3 G' → sr.has X.K H' xs) fun ds xs sr _ r1 h => ⟨r1.length.symm, r1, h⟩
  obtain ⟨fs, us, w3, h3⟩ := src_items (X := X) B.hK s3.gok rp3 w2 (Rr := fun ds xs sr => ds.length = xs.length ∧ reps W.K G3 ds xs ∧ ∀ G' H', GOk W G' H' → Same G3 G' → sr.has X.K H' xs) fun ds xs sr _ r1 h => ⟨r1.length.symm, r1, h⟩
  refine ⟨v, u, u3, xs, ys, us, rfl, ?_⟩
  have imp : ∀ {v : V} {xs : List V} {A B : Src → Prop}, (∀ r, A r → B r) → srcOf X.K H3 v A xs → srcOf X.K H3 v B xs := fun {v xs A B} z h => by
    rcases h with ⟨a, e, h, q⟩ | ⟨a, e, h, q⟩ | ⟨a, e, h, q⟩
    · exact .inl ⟨a, e, h, z _ q⟩
    · exact .inr (.inl ⟨a, e, h, z _ q⟩)
    · exact .inr (.inr ⟨a, e, h, fun tk => z _ (q tk)⟩)
  refine imp (fun r1 ⟨l1, ra, hr1⟩ => imp (fun r2 ⟨l2, rb, hr2⟩ => imp (fun r3 ⟨l3, rc, hr3⟩ => ?_) h3) h2) h1
  refine w3 _ G3 H3 st ⟨fun G' H' i d g s e => ?_, fun G' H' i d x H'' g s e hy => ?_, fun G' H' i g s e => ?_⟩
  · have hi := (List.getElem?_eq_some_iff.mp e).1
    unfold zip3D at hi
    rw [List.length_map, List.length_zip, List.length_zip] at hi
    exact ⟨hr1 G' H' g s, hr2 G' H' g s, hr3 G' H' g s, by omega, by omega, by omega⟩
  · obtain ⟨T, x1, x2, x3, rfl, nT, rfl, e1, e2, e3⟩ := hy
    unfold zip3D at e
    rw [List.getElem?_map] at e
    obtain ⟨pq, ez, rfl⟩ := Option.map_eq_some_iff.mp e
    obtain ⟨ea, eb'⟩ := List.getElem?_zip_eq_some.mp ez
    obtain ⟨eb, ec⟩ := List.getElem?_zip_eq_some.mp eb'
    obtain ⟨y1, k1, k2⟩ := ra.get ea
    obtain ⟨y2, k3, k4⟩ := rb.get eb
    obtain ⟨y3, k5, k6⟩ := rc.get ec
    rw [e1] at k1; cases k1
    rw [e2] at k3; cases k3
    rw [e3] at k5; cases k5
    refine ⟨_, Gst.alloc g _ nT, ?_⟩
    unfold rep
    have sm := s.trans (same_new (o := HO.tup [x1, x2, x3]) (g.nn nT))
    exact ⟨T, _, rfl, .inl (.inl upd_same), .cons (rep_mono sm _ _ k2) (.cons (rep_mono sm _ _ k4) (.cons (rep_mono sm _ _ k6) .nil))⟩
  · unfold zip3D at e
    rw [List.length_map, List.length_zip, List.length_zip] at e
    exact ⟨hr1 G' H' g s, hr2 G' H' g s, hr3 G' H' g s, by omega⟩
end
end DL
/-! x.replace of one sign: behind a test of a number (a token is out by then) -/
namespace DL
open PySem PySem.Spec PyProof.Rows L2 CwR TK PySem.StrLaws
section
variable {X : Cx} {a : Expr} {ta : TE} {xs ys rest : List Stmt} {t1 t2 u : TS} {pos pos2 p : Pos}
theorem pss_if1 {op : CmpOp} {r : R2} {n : Int} {j : Nat} (ho : OpR X (compareOp op) r) (ha : PE X a ta) (hx : PSs X xs t1) (hy : PSs X ys t2) (hm : behindInMarks op (.Constant (.int n) j p) = false) (h2 : PSsT X rest u) :
    PSs X (.If (.Compare a [op] [.Constant (.int n) j p] pos) xs ys pos2 :: rest) (tSeq (tIfS (tTest (tOp r ta (tC (.int n)))) t1 t2) u) := by
  refine ⟨fun pins s σ H D I h => wpAny_execs_cons (wpAny_If (wpAny_isTrue_Compare1 (thn (ha.run pins s σ H _ I h) fun v s1 ⟨x, H1, I1, r1, q1⟩ => wpAny_Constant_int ?_) hm))⟩
  refine wpAny_mono (wpAny_toks (ho pins { s1 with toks := s1.toks + 1 } σ H1 x (.int n) v _ _ (I1.tok _) r1 ⟨_, rfl⟩ q1)) (fun c s3 q => ?_) fun _ _ z => z.2
  obtain ⟨hk, z, H3, I3, r3, k, e, q3⟩ := q
  subst e
  cases r3
  have h1 : 1 ≤ s3.toks := Nat.le_trans (Nat.succ_le_succ (Nat.zero_le _)) hk
  refine wpAny_truthy_bool ?_
  have go : ∀ {ss : List Stmt} {t : TS}, PSs X ss t → t { D with nx := u D } σ H3 → wpAny (model X.prog X.w) X.A (execs ss X.env) (fun f s' => wpAny (model X.prog X.w) X.A (match f with | .next => execs rest X.env | f => pure f) (SP X pins D) X.xe s') X.xe s3 := fun {ss t} hs q => by
    refine wpAny_mono (wpAny_toks (hs.run pins s3 σ H3 { D with nx := u D } I3 q)) (fun f s4 q4 => ?_) fun _ _ z => z.2
    obtain ⟨hk4, q4⟩ := q4
    cases f with
    | next =>
      obtain ⟨σ', H', I', q⟩ := q4
      exact h2 pins s4 σ' H' D (Nat.le_trans h1 hk4) I' q
    | ret v => exact wpAny_pure q4
    | brk => exact wpAny_pure q4
    | cont => exact wpAny_pure q4
  cases k with
  | true => exact wpAny_mono (wpAny_toks (hx.run pins s3 σ H3 { D with nx := u D } I3 q3)) (fun f s4 q4 => by
      obtain ⟨hk4, q4⟩ := q4
      cases f with
      | next =>
        obtain ⟨σ', H', I', q⟩ := q4
        exact h2 pins s4 σ' H' D (Nat.le_trans h1 hk4) I' q
      | ret v => exact q4
      | brk => exact q4
      | cont => exact q4) fun _ _ z => z.2
  | false => exact wpAny_mono (wpAny_toks (hy.run pins s3 σ H3 { D with nx := u D } I3 q3)) (fun f s4 q4 => by
      obtain ⟨hk4, q4⟩ := q4
      cases f with
      | next =>
        obtain ⟨σ', H', I', q⟩ := q4
        exact h2 pins s4 σ' H' D (Nat.le_trans h1 hk4) I' q
      | ret v => exact q4
      | brk => exact q4
      | cont => exact q4) fun _ _ z => z.2
theorem pst_set {i : Nat} {x : Str} {e : Expr} {te : TE} {pos' : Pos} (hN : X.N.Nodup) (hi : X.N[i]? = some x) (hx : Loc X.env.scope x) (he : PET X e te) (hs : swapsWith e (some (.Name x pos')) pos.line X.env = pure false := by rfl) (hf : X.fn x = true ∨ X.env.scope.names.lookup x = some .local := by first | exact .inl rfl | exact .inr rfl | assumption) :
    PST X (.Assign [.Name x pos'] e pos) (tAsg te (gName i)) := by
  intro pins s σ H D h0 I h
  refine wpAny_Assign_Name (thn (he pins s σ H _ h0 I h) fun v s1 ⟨y, H1, I1, r1, q1⟩ => ?_) hs
  exact store_ok I1 hN hi hx r1 (fun s2 I2 => ⟨_, H1, I2, q1⟩) hf
end
section
variable (W : Wd) (G0 H0 : Hp) (E : XK) (X : Cx)
structure DET (e : Expr) (f : WE) : Prop where
  mono : Mono f
  ex : ∃ t, PET X e t ∧ ∀ env σ G H Q, RelS W G0 H0 env σ G H → f env (QE W G H Q) (XOk W G0 H0 E) → t σ H Q
structure DST (st : Stmt) (f : WS) : Prop where
  mono : MonoS f
  ex : ∃ t, PST X st t ∧ ∀ env σ G H Dv, RelS W G0 H0 env σ G H → f env (dnOf W G0 H0 G Dv) (XOk W G0 H0 E) → t Dv σ H
structure DSsT (sts : List Stmt) (f : WS) : Prop where
  mono : MonoS f
  ex : ∃ t, PSsT X sts t ∧ ∀ env σ G H Dv, RelS W G0 H0 env σ G H → f env (dnOf W G0 H0 G Dv) (XOk W G0 H0 E) → t Dv σ H
end
section
variable {W : Wd} {G0 H0 G G' H H' : Hp} {E : XK} {X : Cx} {k n : Nat} {env : Env1} {σ : L2.St}
theorem DSs.T {sts : List Stmt} {f : WS} (h : DSs W G0 H0 E X sts f) : DSsT W G0 H0 E X sts f := by
  obtain ⟨m, t, p, q⟩ := h
  exact ⟨m, t, PSsT.of p, q⟩
theorem DS.T {st : Stmt} {f : WS} (h : DS W G0 H0 E X st f) : DST W G0 H0 E X st f := by
  obtain ⟨m, t, p, q⟩ := h
  exact ⟨m, t, PST.of p, q⟩
theorem dsst_cons {st : Stmt} {rest : List Stmt} {f g : WS} (h1 : DST W G0 H0 E X st f) (h2 : DSsT W G0 H0 E X rest g) : DSsT W G0 H0 E X (st :: rest) (wSeq f g) := by
  obtain ⟨m1, t1, p1, q1⟩ := h1
  obtain ⟨m2, t2, p2, q2⟩ := h2
  refine ⟨fun env D D' X z w => m1 _ { D with nx := fun e => g e D X } { D' with nx := fun e => g e D' X } _ ⟨fun e w => m2 _ _ _ _ z w, z.rt, z.bk, z.ct⟩ w, _, psst_cons p1 p2, fun env σ G H Dv r w => ?_⟩
  refine q1 env σ G H _ r (m1 _ { dnOf W G0 H0 G Dv with nx := fun e => g e (dnOf W G0 H0 G Dv) (XOk W G0 H0 E) } _ _ ⟨fun e w => ?_, fun _ h => h, fun _ h => h, fun _ h => h⟩ w)
  intro σ1 G1 H1 s1 r1
  exact q2 e σ1 G1 H1 Dv r1 (m2 _ _ _ _ (dnOf_le s1) w)
/-- if a op n: .. and what stands behind it, by when a token is out -/
theorem dss_if1 {op : CmpOp} {a : Expr} {fa : WE} {g : D → D → PD → Prop} {r : R2} {i : Int} {j : Nat} {p pos pos2 : Pos} {xs ys rest : List Stmt} {f1 f2 h : WS} (ho : OpR X (compareOp op) r) (l : Lift2 W r g) (ha : DE W G0 H0 E X a fa)
    (hx : DSs W G0 H0 E X xs f1) (hy : DSs W G0 H0 E X ys f2) (h2 : DSsT W G0 H0 E X rest h) (hm : behindInMarks op (.Constant (.int i) j p) = false := by exact nomark _) :
    DSs W G0 H0 E X (.If (.Compare a [op] [.Constant (.int i) j p] pos) xs ys pos2 :: rest) (wSeq (wIf (wIs (wOp2 g fa (wC (.int i)))) f1 f2) h) := by
  obtain ⟨ma, ta, pa, qa⟩ := ha
  obtain ⟨m1, t1, p1, q1⟩ := hx
  obtain ⟨m2, t2, p2, q2⟩ := hy
  obtain ⟨m3, t3, p3, q3⟩ := h2
  refine ⟨fun env D D' Y z w => ma _ _ _ _ (fun d w => l.mono _ _ _ _ (fun v ⟨b, e, w⟩ => ⟨b, e, ite_mono (m1 _ { D with nx := fun e => h e D Y } { D' with nx := fun e => h e D' Y } _ ⟨fun e w => m3 _ _ _ _ z w, z.rt, z.bk, z.ct⟩) (m2 _ { D with nx := fun e => h e D Y } { D' with nx := fun e => h e D' Y } _ ⟨fun e w => m3 _ _ _ _ z w, z.rt, z.bk, z.ct⟩) w⟩) w) w, _, pss_if1 ho pa p1 p2 hm p3, fun env σ G H Dv r w => ?_⟩
  refine qa env σ G H _ r (ma _ _ _ _ (fun d w => ?_) w)
  intro v G1 H1 s1 rv
  refine l.run G1 H1 v (.int i) d (.int i) _ s1.gok rv (by unfold rep; rfl) (l.mono _ _ _ _ (fun c w => ?_) w)
  obtain ⟨b, rfl, w⟩ := w
  intro c G2 H2 s2 rc
  unfold rep at rc
  refine ⟨b, rc, ?_⟩
  have le : ∀ e, h e (dnOf W G0 H0 G Dv) (XOk W G0 H0 E) → ∀ σ' G' H', Same G2 G' → RelS W G0 H0 e σ' G' H' → t3 Dv σ' H' := fun e w σ' G' H' s' r' =>
    q3 e σ' G' H' Dv r' (m3 _ _ _ _ (dnOf_le ((s1.trans s2).le.trans s')) w)
  refine ite_mono (fun w => q1 env σ G2 H2 { Dv with nx := t3 Dv } (r.step (s1.trans s2)) (m1 _ { dnOf W G0 H0 G Dv with nx := fun e => h e (dnOf W G0 H0 G Dv) (XOk W G0 H0 E) } _ _ ⟨fun e w => le e w, (dnOf_le (s1.trans s2).le).rt, (dnOf_le (s1.trans s2).le).bk, (dnOf_le (s1.trans s2).le).ct⟩ w)) (fun w => q2 env σ G2 H2 { Dv with nx := t3 Dv } (r.step (s1.trans s2)) (m2 _ { dnOf W G0 H0 G Dv with nx := fun e => h e (dnOf W G0 H0 G Dv) (XOk W G0 H0 E) } _ _ ⟨fun e w => le e w, (dnOf_le (s1.trans s2).le).rt, (dnOf_le (s1.trans s2).le).bk, (dnOf_le (s1.trans s2).le).ct⟩ w)) w
theorem dst_set {i : Nat} {x : Str} {e : Expr} {f : WE} {pos pos' : Pos} (hp : ∀ te, PET X e te → PST X (.Assign [.Name x pos'] e pos) (tAsg te (gName i))) (he : DET W G0 H0 E X e f) :
    DST W G0 H0 E X (.Assign [.Name x pos'] e pos) (wAsg (wN i) f) := by
  obtain ⟨m, t, p, q⟩ := he
  refine ⟨fun env D D' X z w => m _ _ _ _ (fun d w => z.nx _ w) w, _, hp _ p, fun env σ G H Dv r w => ?_⟩
  refine q env σ G H _ r (m _ _ _ _ (fun d w => ?_) w)
  intro v G1 H1 s1 rp
  exact w _ G1 H1 s1.le ((r.step s1).set_dt rp)
theorem repl_one (c d : Nat) : ∀ s : List Nat, replL [c] [d] s = s.map fun x => if x = c then d else x
  | [] => replL_nil
  | x :: s => by
    by_cases h : x = c
    · rw [replL_hit (by simp) (by simp [h]), List.map_cons, if_pos h]
      show d :: replL [c] [d] s = _
      rw [repl_one c d s]
    · rw [replL_miss (by simp [h]), List.map_cons, if_neg h, repl_one c d s]
/-- x.replace(c, d), one sign each -/
def wRepl1 (c d : Nat) (fo : WE) : WE := fun env Q Y => fo env (fun v => ∃ s : List Nat, v = .str s ∧ s.length ≤ 4000000 ∧ Q (.str (s.map fun x => if x = c then d else x))) Y
theorem det_repl1 {o : Expr} {fo : WE} {j k : Nat} {apos pos c0 c1 : Pos} (c d : Nat) {y z : Str} (ey : y = zs [c]) (ez : z = zs [d]) (hyz : (y == z) = false) (ho : DE W G0 H0 E X o fo)
    (hst : starEach [.Constant (.str y) j c0, .Constant (.str z) k c1] X.env = [(false, eval (.Constant (.str y) j c0) X.env), (false, eval (.Constant (.str z) k c1) X.env)] := by rfl)
    (hbase : attributeBase o "replace" X.env (eval o X.env) = eval o X.env := by rfl) (hline : (apos.endLine == pos.line) = true := by rfl) :
    DET W G0 H0 E X (.Call (.Attribute o "replace" apos) [.Constant (.str y) j c0, .Constant (.str z) k c1] [] pos) (wRepl1 c d fo) := by
  obtain ⟨m, t, p, q⟩ := ho
  refine ⟨fun env Q Q' Y z w => m _ _ _ _ (fun v ⟨s, e, l, w⟩ => ⟨s, e, l, z _ w⟩) w, _, pet_replC p hyz hst hbase hline, fun env σ G H Q r w => ?_⟩
  refine q env σ G H _ r (m _ _ _ _ (fun v w => ?_) w)
  obtain ⟨s, rfl, hl, w⟩ := w
  intro v G1 H1 s1 rp
  have e := rep_str rp
  subst e
  have hz1 : z.length = 1 := by rw [ez]; rfl
  have hl2 : (zs s).length = s.length := zs_len s
  refine ⟨zs s, rfl, by rw [hz1, hl2]; omega, ?_⟩
  refine QE.here s1.gok ?_ (QE.step s1 w)
  unfold rep
  rw [← repl_one c d s, ← zs_of (Txt.replace (zs s) y z), replace_list (by rw [ey]; exact Nat.le_refl 1), ey, ez]
end
end DL
/-! iterators that end, and pairs unpacked, while an exception is handled -/
namespace DL
open PySem PySem.Spec PyProof.Rows L2 HotX L2H
section
variable {P : Program} {w : World} {A : Around} {Ex : Value → Shared → Prop} {z : Shared}
theorem stop_raised {α : Type} {x1 : Addr} {R : α → Shared → Prop} (hot : HotAt A x1 z.heap)
    (q : ∀ (a : Addr) (h' : Heap) (oe : Obj), h'.get? a = some oe → oe.cls = .type "StopIteration" → (∀ b o, z.heap.get? b = some o → h'.get? b = some o) → Ex (.ref a) { z with heap := h' }) :
    wpAny (model P w) A (newExc (.type "StopIteration") [] >>= fun e => (raiseNew e : Sem α)) R Ex z := by
  obtain ⟨hh, o1, v1, e1, d1, c1⟩ := hot
  refine wpAny_bind ?_
  unfold newExc newTuple
  refine wpAny_bind (wpAny_newObj_type (wpAny_bind (m := firstArgMember _ _) (wpAny_of_eq (a := Value.none) (by first | rfl | (simp only [firstArgMember]; rfl)) (wpAny_newObj_type ?_ (by size_fits)))) (by size_fits))
  refine raiseNew_hot ⟨hh, o1, v1, Heap.get?_push_of_some _ (Heap.get?_push_of_some _ e1), d1, c1⟩ (Nat.ne_of_lt (Heap.lt_size (Heap.get?_push_of_some _ e1))) (Heap.get?_push_size _ rfl) rfl (by first | (simp; done) | (simp; omega) | (simp only [Array.size_append]; simp; omega)) (q _ _ _ (Heap.get?_update_self _ (Heap.get?_push_size _ rfl) rfl) rfl fun b o e => ?_)
  rw [Heap.get?_update_other _ _ (Nat.ne_of_gt (Heap.lt_size (Heap.get?_push_of_some _ e)))]
  exact Heap.get?_push_of_some _ (Heap.get?_push_of_some _ e)
theorem list_end_hot {x1 ia la : Addr} {n : Nat} {its : Array Value} {R : Option Value → Shared → Prop} (hot : HotAt A x1 z.heap) (hne : x1 ≠ ia) (hi : z.heap.IsListIter ia la n) (hl : z.heap.IsList la its) (hx : its[n]? = none)
    (q : ∀ h', (∀ b o, b ≠ ia → z.heap.get? b = some o → h'.get? b = some o) → R none { z with heap := h' }) : wpAny (model P w) A (pyNext (.ref ia)) R Ex z := by
  obtain ⟨oi, ei, ci, di⟩ := id hi
  obtain ⟨ol, el, _, nl, dl⟩ := hl
  obtain ⟨hh, o1, v1, e1, d1, c1⟩ := hot
  unfold pyNext
  refine wpAny_bind (wpAny_attempt (wpAny_callSpecial?_slot (name := Str.ofString "__next__") hi.typeIs slot_listiter_next (wpAny_call_entry slot_listiter_next hi.typeIs entry_listiter_next ?_ (args_listiter_next _))))
  show wpAny _ _ (field (.ref ia) 0 >>= _) _ _ z
  refine wpAny_bind (wpAny_field ei di (x := .ref la) rfl ?_)
  show wpAny _ _ (if (Value.ref la == Value.none) = true then _ else _) _ _ z
  rw [if_neg (show ¬ ((Value.ref la == Value.none) = true) from Bool.false_ne_true)]
  show wpAny _ _ (field (.ref ia) 1 >>= _) _ _ z
  refine wpAny_bind (wpAny_field ei di (x := .int n 0) rfl ?_)
  show wpAny _ _ (seqItems? (.ref la) >>= _) _ _ z
  refine wpAny_bind (wpAny_seqItems el dl ?_)
  simp only [Int.toNat_natCast, hx]
  refine wpAny_bind (wpAny_rule (wpAny_bind (wpAny_setField ei di (by simp) (stop_raised (A := A.in1) ⟨hh, o1, v1, ?_, d1, c1⟩ fun a h' oe g1 g2 k => wpAny_bind (wpAny_isInstance (T := "StopIteration") (b := true) (show Shared.TypeIs _ (.ref a) _ from ⟨oe, g1, g2⟩) isSubtype_stop (wpAny_pure (q h' fun b o hb e => k b o ?_)))))))
  · show (z.heap.update ia _).get? x1 = some o1
    rw [Heap.get?_update_other _ _ hne.symm]; exact e1
  · show (z.heap.update ia _).get? b = some o
    rw [Heap.get?_update_other _ _ (Ne.symm hb)]; exact e
theorem tup_end_hot {x1 ia ta : Addr} {n : Nat} {its : Array Value} {R : Option Value → Shared → Prop} (hot : HotAt A x1 z.heap) (hne : x1 ≠ ia) (hi : IsTupIter z.heap ia ta n) (ht : IsTup z.heap ta its) (hx : its[n]? = none)
    (q : ∀ h', (∀ b o, b ≠ ia → z.heap.get? b = some o → h'.get? b = some o) → R none { z with heap := h' }) : wpAny (model P w) A (pyNext (.ref ia)) R Ex z := by
  obtain ⟨oi, ei, ci, di⟩ := id hi
  obtain ⟨ol, el, _, nl, dl⟩ := ht
  obtain ⟨hh, o1, v1, e1, d1, c1⟩ := hot
  unfold pyNext
  refine wpAny_bind (wpAny_attempt (wpAny_callSpecial?_slot (name := Str.ofString "__next__") hi.typeIs slot_tupleiter_next (wpAny_call_entry slot_tupleiter_next hi.typeIs entry_tupleiter_next ?_ (args_tupleiter_next _))))
  show wpAny _ _ (field (.ref ia) 0 >>= _) _ _ z
  refine wpAny_bind (wpAny_field ei di (x := .ref ta) rfl ?_)
  show wpAny _ _ (if (Value.ref ta == Value.none) = true then _ else _) _ _ z
  rw [if_neg (show ¬ ((Value.ref ta == Value.none) = true) from Bool.false_ne_true)]
  show wpAny _ _ (field (.ref ia) 1 >>= _) _ _ z
  refine wpAny_bind (wpAny_field ei di (x := .int n 0) rfl ?_)
  show wpAny _ _ (seqItems? (.ref ta) >>= _) _ _ z
  refine wpAny_bind (wpAny_seqItems el dl ?_)
  simp only [Int.toNat_natCast, hx]
  refine wpAny_bind (wpAny_rule (wpAny_bind (wpAny_setField ei di (by simp) (stop_raised (A := A.in1) ⟨hh, o1, v1, ?_, d1, c1⟩ fun a h' oe g1 g2 k => wpAny_bind (wpAny_isInstance (T := "StopIteration") (b := true) (show Shared.TypeIs _ (.ref a) _ from ⟨oe, g1, g2⟩) isSubtype_stop (wpAny_pure (q h' fun b o hb e => k b o ?_)))))))
  · show (z.heap.update ia _).get? x1 = some o1
    rw [Heap.get?_update_other _ _ hne.symm]; exact e1
  · show (z.heap.update ia _).get? b = some o
    rw [Heap.get?_update_other _ _ (Ne.symm hb)]; exact e
/-- a pair unpacked -/
theorem unpack_hot {x1 ta : Addr} {its : Array Value} {tgs : List (Bool × (Value → Sem Unit))} {R : Unit → Shared → Prop} (hot : HotAt A x1 z.heap) (ht : IsTup z.heap ta its) (hn : tgs.length = its.size) (hs : tgs.findIdx? (·.1) = none)
    (q : ∀ h', (∀ b o, z.heap.get? b = some o → h'.get? b = some o) → wpAny (model P w) A (assignInOrder (tgs.map (·.2)) its.toList) R Ex { z with heap := h' }) : wpAny (model P w) A (unpack (.ref ta) tgs) R Ex z := by
  have hlt : ta ≠ z.heap.objs.size := by obtain ⟨o, e, _⟩ := ht; exact Nat.ne_of_lt (Heap.lt_size e)
  obtain ⟨hh, o1, v1, e1, d1, c1⟩ := hot
  have x1l : x1 ≠ z.heap.objs.size := Nat.ne_of_lt (Heap.lt_size e1)
  unfold unpack
  rw [hn, hs]
  refine wpAny_bind (wpAny_holding ?_)
  unfold unpackItems
  refine wpAny_bind ?_
  unfold notIterableAtAll
  refine wpAny_bind (wpAny_specialOf ht.typeIs slot_tuple_iter.lookup (wpAny_pure ?_))
  simp only [Bool.false_eq_true, if_false]
  refine wpAny_bind (wpAny_holding (iter_tuple ht (wpAny_bind (wpAny_holding (draw_tuple hlt its.size 0 _ _ ⟨_, Heap.get?_push_size _ rfl, rfl, rfl⟩ (ht.push _) (by omega) fun h1 hit1 sb1 => ?_)))))
  have hall : List.take its.size (List.drop 0 its.toList) = its.toList := by rw [List.drop_zero]; exact List.take_of_length_le (by simp)
  rw [hall, if_neg (by simp)]
  have hx1 : h1.get? x1 = some o1 := sb1.extBut x1 o1 x1l (Heap.get?_push_of_some _ e1)
  refine wpAny_bind (wpAny_holding (tup_end_hot ⟨hh, o1, v1, hx1, d1, c1⟩ x1l hit1 ((ht.push _).extBut sb1.extBut hlt) (by simp) fun h2 k2 => ?_))
  simp only [Option.isSome_none, Bool.false_eq_true, if_false]
  exact wpAny_pure (q h2 fun b o e => k2 b o (Nat.ne_of_lt (Heap.lt_size e)) (sb1.extBut b o (Nat.ne_of_lt (Heap.lt_size e)) (Heap.get?_push_of_some _ e)))
end
section
variable {X : Cx}
theorem pg_tupH {es : List Expr} {k : Nat} {t : TGs} {n : Nat} {pos : Pos} (hc : HotC X) (h : PGs X es t) (hn : (assignEach es X.env).length = n := by rfl) (hst : (assignEach es X.env).findIdx? (·.1) = none := by rfl) : PG X (.Tuple es k pos) (gTup X.K n t) := by
  refine ⟨fun pins z σ H v u Q I r hw => ?_⟩
  obtain ⟨a, xs, e1, hq, hl, hw⟩ := hw
  subst e1
  cases r
  obtain ⟨its, rv, ht, hz⟩ := I.tuple hq
  obtain ⟨x1, hot⟩ := hc.at I
  rw [assign_Tuple]
  refine wpAny_bind (wpAny_standAt (unpack_hot hot ht (by simp [hn, ← hl, rv.length]) hst fun h' k => ?_))
  exact h.run pins _ σ H xs _ Q (I.kept (t' := z.toks) k) (by simpa using rv) hw
theorem turn_listH {P : Program} {w : World} {K : PySem.W.Frag} {tg : Expr} (a ia : Addr) : TurnH P w K tg (Itl K a) [ia] ia (fun i h => h.IsListIter ia a i) where
  mem := by simp
  obj := fun i h st b hb => by
    obtain ⟨o, e, c, d⟩ := st
    rw [List.mem_singleton.mp hb]
    exact ⟨o, e, fun v y => by rw [d] at y; cases y⟩
  keep := fun i h h' st k => st.at fun o e => k ia (by simp) o e
  item := by
    intro X e1 e2 e3 hc i pins z σ H E I hf st hg
    subst e1 e2 e3
    obtain ⟨xs, x, hq, hx⟩ := hg
    obtain ⟨its, rv, p, hz⟩ := I.list hq
    obtain ⟨u, hu, ru⟩ := rv.get hx
    obtain ⟨f0, f1, f2, f3, f4, f5⟩ := hf ia (by simp)
    refine wpAny_pyNext_list_item st p.isList (x := u) (by simpa using hu) fun h' st' sb => ?_
    obtain ⟨o, e, c, d⟩ := id st'
    have I1 : Inv X pins σ H { z with heap := h' } := I.turned (t' := z.toks) (fun b y hb ey => (sb.2 b hb).trans ey) f0 f1 f3 f4 f5
    exact ⟨u, rfl, go_of (s := { z with heap := h' }) e c d (by decide) ⟨x, H, I1, ru, ⟨rfl, fun ys hy => by rw [I.list_inj hy hq]; exact hx⟩, st', fun b hb => (hf b hb).1⟩⟩
  done := by
    intro X e1 e2 e3 hc i pins z σ H E I hf st hg
    subst e1 e2 e3
    obtain ⟨xs, hq, hx⟩ := hg
    obtain ⟨its, rv, p, hz⟩ := I.list hq
    have hl := rv.length
    obtain ⟨f0, f1, f2, f3, f4, f5⟩ := hf ia (by simp)
    obtain ⟨pp, ⟨hh, v1, d1, c1⟩, hp⟩ := hc
    have hpin := I.pin pp (List.mem_append_left _ hp)
    exact list_end_hot ⟨hh, pp.2, v1, hpin.1, d1, c1⟩ (f5 pp (List.mem_append_left _ hp)) st p.isList (by simp; omega) fun h' k => ⟨rfl, I.turned (t' := z.toks) (fun b o hb e => k b o hb e) f0 f1 f3 f4 f5⟩
  self := fun _ _ _ _ _ st h => wpAny_pyIter_listiter st h
/-- a list walked -/
theorem pi_listH {tg l : Expr} {tl : TE} (hl : PE X l tl) : PIH X tg l (iList X.K tl) := by
  refine ⟨fun pins z σ H R I h => thn (hl.run pins z σ H _ I h) fun v z1 ⟨x, H1, I1, r1, a, e, ⟨xs, hq⟩, q⟩ => ?_⟩
  subst e
  cases r1
  obtain ⟨its, rv, p, hz⟩ := I1.list hq
  refine wpAny_pyIter_list p.isList ⟨z1.heap.objs.size, [z1.heap.objs.size], _, _, H1, rfl, I1.kept (t' := z1.toks) fun b o e => Heap.get?_push_of_some _ e, turn_listH a _, ⟨_, Heap.get?_push_size _ rfl, rfl, rfl⟩, fun b hb => ?_, q⟩
  rw [List.mem_singleton.mp hb]
  exact I1.fpOk (Nat.le_refl _) (I1.hok.fresh (Nat.le_refl _))
end
end DL
/-! list comprehensions while an exception is handled -/
namespace DL
open PySem PySem.Spec PyProof.Rows L2 HotX L2H
/-- the block's context, the handled exception pinned -/
abbrev bh (X : Cx) (z : Shared) (H : Hp) (scope : Scope) (ce : Env) (fp : List Addr) : Cx := { X.blk z H scope ce fp with pn := X.pn }
theorem Okb {X : Cx} {z : Shared} {H : Hp} {scope : Scope} {ce : Env} {fp : List Addr} (o : (X.blk z H scope ce fp).Ok) : (bh X z H scope ce fp).Ok :=
  ⟨o.mod, o.kind, o.glob, o.blt, o.above, o.inj, o.has, o.cab, o.hd, o.frames, o.stk, o.exf, o.bs, o.bsz, o.noex, o.exfs, o.funs, o.frf⟩
abbrev bhx (X : Cx) (scope : Scope) (z : Shared) (H : Hp) (C : Addr) (cl : List (Str × Addr)) (fp : List Addr) : Cx := bh X z H scope (compEnvC scope cl C X.env) fp
section
variable {X : Cx}
theorem lc_hot {pins : List (Addr × Obj)} {z : Shared} {σ : L2.St} {H : Hp} {Q : VK} {elt tg iter : Expr} {ifs : List Expr} {scope : Scope} {own : List (Str × Nat)} {pos pos' : Pos} {wi : TI} {g : TG} {tt : TT} {te : TE} {use : Option (Value → Sem Unit)} {Qf : Value → Shared → Prop}
    (hc : HotC X) (hN : X.N.Nodup) (V0 : Inv X pins σ H z) (hi : PIH X tg iter wi) (ok : BlkOk X.N X.env.scope scope own) (hg : ∀ z H C cl fp, PG (bhx X scope z H C cl fp) tg g) (ht : ∀ z H C cl fp, PTs (bhx X scope z H C cl fp) ifs tt) (he : ∀ z H C cl fp, PE (bhx X scope z H C cl fp) elt te)
    (hs : ∀ x, foldedSetIterable iter X.env x = pure x) (h : tLc wi g tt te (own.map (·.2)) σ H Q)
    (hRR : ∀ L C z' m H', Inv X pins σ H' z' → Q (.ref L) H' → z'.heap.Ns C m → FpOk X pins H' C → compPost (model X.prog X.w) X.A X.xe use Qf (.ref L) C (.ok .next) z') :
    wpAny (model X.prog X.w) X.A (comprehension (.ListComp elt [⟨tg, iter, ifs, 0⟩] scope pos) scope X.env pos' (newList []) false (eval iter X.env) use) Qf X.xe z := by
  have hfr : ∀ y ∈ scope.names, y.2 = .free → ∃ c, X.env.cells.lookup y.1 = some c := fun y hy e => (ok.free y hy e).elim (fun k => V0.ok.has _ (.inl k)) fun k => V0.ok.has _ (.inr k)
  refine wpAny_comprehension_free (use := use) rfl hs (closure_ok hfr) ok.kind (fun y hy e => by rw [ok.uniq y hy, e]) (thn (hi.run pins z σ H _ V0 h) fun xv z1 hx => thn hx fun itv z2 h2 => ?_)
  obtain ⟨ia, fp, tn, J, H2, e, V2, Tn, st2, f2, q⟩ := h2
  subst e
  refine wpAny_newObj_type (newEnv_comp ?_) (by show 0 ≤ sizeLine; decide)
  generalize hL : z2.heap.objs.size = L
  have hLn : H2 L = none := V2.hok.fresh (Nat.le_of_eq hL)
  obtain ⟨Wm, ⟨m0, w0⟩, turn⟩ := q L hLn
  generalize hz3 : ({ z2 with heap := z2.heap.push { cls := .type "list", data := .seq ([] : List Value).toArray } } : Shared) = z3
  have V3 : Inv X pins σ (upd H2 L (.lst [])) z3 := by
    rw [← hz3]
    refine V2.laid (t' := z2.toks) (fun b o e => Heap.get?_push_of_some _ e) (Nat.le_of_eq hL) ⟨Nat.zero_le _, [], 0, .nil, ?_⟩
    rw [← hL]
    exact Heap.get?_push_size _ rfl
  have h3 : z3.heap = z2.heap.push { cls := .type "list", data := .seq ([] : List Value).toArray } := by rw [← hz3]
  have f3 : ∀ b ∈ fp, FpOk X pins (upd H2 L (.lst [])) b ∧ b < z3.heap.objs.size := fun b hb => by
    obtain ⟨o, e, _⟩ := Tn.obj _ _ st2 b hb
    have hlt := Heap.lt_size e
    refine ⟨⟨?_, (f2 b hb).2⟩, by rw [h3, Heap.size_push]; exact Nat.lt_succ_of_lt hlt⟩
    rw [upd_ne (by rw [← hL]; exact Nat.ne_of_lt hlt)]
    exact (f2 b hb).1
  have st3 : tn 0 z3.heap := Tn.keep _ _ _ st2 fun b _ o e => by rw [h3]; exact Heap.get?_push_of_some _ e
  have V4 := block_start V3 ok hN f3
  have pg := hg z3 (upd H2 L (.lst [])) z3.heap.objs.size (cellsFrom (z3.heap.objs.size + 1) scope.names (cloFrom X.env.cells scope.names [])) fp
  have pt := ht z3 (upd H2 L (.lst [])) z3.heap.objs.size (cellsFrom (z3.heap.objs.size + 1) scope.names (cloFrom X.env.cells scope.names [])) fp
  have pe := he z3 (upd H2 L (.lst [])) z3.heap.objs.size (cellsFrom (z3.heap.objs.size + 1) scope.names (cloFrom X.env.cells scope.names [])) fp
  show codeAny _ _ (.compStart (.ListComp elt [⟨tg, iter, ifs, 0⟩] scope pos) 0 (.ref ia) (.ref L) (compEnvC scope (cellsFrom (z3.heap.objs.size + 1) scope.names (cloFrom X.env.cells scope.names [])) z3.heap.objs.size X.env)) (compPost (model X.prog X.w) X.A X.xe use Qf (.ref L) z3.heap.objs.size) { z3 with heap := pushCells (z3.heap.push { cls := .type "dict", data := .dict #[] }) scope.names }
  have nfp : ∀ b ∈ fp, (upd H2 L (.lst [])) b = none := fun b hb => (f3 b hb).1.1
  unfold bhx at pg pt pe
  generalize hce : compEnvC scope (cellsFrom (z3.heap.objs.size + 1) scope.names (cloFrom X.env.cells scope.names [])) z3.heap.objs.size X.env = ce at V4 pg pt pe ⊢
  have cL : ce.locals = z3.heap.objs.size := by subst hce; rfl
  generalize hH3 : upd H2 L (.lst []) = H3 at V3 V4 pg pt pe w0 nfp f3
  have kp : ∀ b o, z3.heap.get? b = some o → (pushCells (z3.heap.push { cls := .type "dict", data := .dict #[] }) scope.names).get? b = some o := fun b o e => pushCells_keeps _ _ _ _ (Heap.get?_push_of_some _ e)
  generalize hz4 : ({ z3 with heap := pushCells (z3.heap.push { cls := .type "dict", data := .dict #[] }) scope.names } : Shared) = z4 at V4 ⊢
  have st4 : tn 0 z4.heap := Tn.keep _ _ _ st3 fun b _ o e => by rw [← hz4]; exact kp b o e
  have V5 : Inv (bh X z3 H3 scope ce fp) [] (wipe σ (own.map (·.2))) H3 z4 := by
    refine ⟨Okb V4.ok, V4.os, V4.bare, V4.base, V4.loc, V4.cell, V4.free, V4.freeC, fun p hp => ?_, V4.hok, V4.len⟩
    rw [List.append_nil] at hp
    obtain ⟨a1, a2, a3, a4, a5⟩ := V3.pin p (List.mem_append_left _ hp)
    refine ⟨by rw [← hz4]; exact kp _ _ a1, a2, ?_, fun y => (List.mem_cons.mp (V3.stkSub _ y)).elim a3 a4, a5⟩
    show p.1 ≠ ce.locals
    rw [cL]
    exact Nat.ne_of_lt (Heap.lt_size a1)
  have hb : HotC (bh X z3 H3 scope ce fp) := hc
  have stat : ∀ {σ' : L2.St} {H' : Hp} {z' : Shared}, Inv (bh X z3 H3 scope ce fp) [] σ' H' z' → (∀ b ∈ fp, H' b = none) → ∀ b ∈ fp, FpOk (bh X z3 H3 scope ce fp) [] H' b := fun {σ' H' z'} V' hn b hb =>
    ⟨hn b hb, (V'.ok.exf b hb).1, V'.ok.exfs b hb, .inl hb, fun x c e => (V'.ok.exf b hb).2 x c e, fun p hp => (f3 b hb).1.2.2.2.2.2 p (List.mem_append_left _ (by simpa using hp))⟩
  have loop : codeAny (model X.prog X.w) X.A (.compLoop (.ListComp elt [⟨tg, iter, ifs, 0⟩] scope pos) 0 (.ref ia) (.ref L) ce) (compPost (model X.prog X.w) X.A X.xe use Qf (.ref L) z3.heap.objs.size) z4 := by
    refine compLoop_any (fun n z' => ∃ i H', Inv (bh X z3 H3 scope ce fp) [] (wipe σ (own.map (·.2))) H' z' ∧ tn i z'.heap ∧ (∀ b ∈ fp, H' b = none) ∧ Wm i n H') ?_ m0 ⟨0, H3, V5, st4, nfp, w0⟩
    rintro n z5 ⟨i, H5, W5, st5, n5, w5⟩
    rcases turn i n H5 w5 with ⟨stop, qq⟩ | ⟨go, Nx, hNx, step⟩
    · refine thnF (Tn.done (bh X z3 H3 scope ce fp) rfl rfl rfl hb i [] z5 _ H5 (fun _ _ => False) W5 (stat W5 n5) st5 stop) fun r z6 ⟨hr, W6⟩ => ?_
      subst hr
      have W7 : Inv X pins σ H5 z6 := V3.call' (ch := fp) W6.os W6.base W6.hok W6.bare fun b hb => ⟨(f3 b hb).1.2.2.2.1, (f3 b hb).1.2.1, (f3 b hb).1.2.2.2.2.1, (f3 b hb).1.2.2.2.2.2⟩
      have nC : H5 z3.heap.objs.size = none := by
        have y : H5 ce.locals = none := W6.free
        rw [cL] at y
        exact y
      obtain ⟨m, hn, _⟩ := W6.loc
      have hn : z6.heap.Ns ce.locals m := hn
      rw [cL] at hn
      exact hRR L z3.heap.objs.size z6 m H5 W7 qq hn (V3.fpOk (Nat.le_refl _) nC)
    · refine thnF (Tn.item (bh X z3 H3 scope ce fp) rfl rfl rfl hb i [] z5 _ H5 (fun _ _ => False) W5 (stat W5 n5) st5 go) fun r z6 ⟨u, hr, h6⟩ => ?_
      subst hr
      refine thnF h6 fun _ z7 ⟨x, H7, W7, r7, y7, st7, n7⟩ => ?_
      have W7' := W7.pinned (stat W7 n7) (Tn.obj _ _ st7)
      refine thnF (pg.run _ z7 _ H7 x u _ W7' r7 (step x H7 y7)) fun _ z8 ⟨σ8, H8, W8, hw8, q8⟩ => thnF (pt.run _ z8 σ8 H8 _ W8 q8) fun b z9 ⟨H9, W9, q9⟩ => ?_
      have fin : ∀ {z' : Shared} {H' : Hp}, Inv (bh X z3 H3 scope ce fp) ([] ++ pinsAt fp z7.heap) σ8 H' z' → Nx H' → ∃ m, m < n ∧ ∃ i H', Inv (bh X z3 H3 scope ce fp) [] (wipe σ (own.map (·.2))) H' z' ∧ tn i z'.heap ∧ (∀ b ∈ fp, H' b = none) ∧ Wm i m H' := fun {z' H'} V' nx => by
        obtain ⟨m', hm, w'⟩ := hNx H' nx
        have at' : ∀ b ∈ fp, ∀ o, z7.heap.get? b = some o → z'.heap.get? b = some o ∧ H' b = none := fun b hb o e => by
          obtain ⟨y1, y2, _⟩ := V'.pin (b, o) (List.mem_append_right _ (List.mem_append_right _ (mem_pinsAt hb e)))
          exact ⟨y1, y2⟩
        refine ⟨m', hm, i + 1, H', (V'.unpinned (pins := [])).weak (by rw [← hw8, wipe_length]) (fun j v e => ?_), Tn.keep _ _ _ st7 fun b hb o e => (at' b hb o e).1, fun b hb => ?_, w'⟩
        · rw [← hw8] at e
          exact (wipe_some e).1
        · obtain ⟨o, e, _⟩ := Tn.obj _ _ st7 b hb
          exact (at' b hb o e).2
      cases b with
      | false =>
        simp only [Bool.false_eq_true, if_false] at q9 ⊢
        exact fin W9 q9
      | true =>
        simp only [if_true] at q9 ⊢
        exact thnF (pe.run _ z9 σ8 H9 _ W9 q9) fun y z10 ⟨yv, H10, W10, r10, acc, hD10, hz10, nx⟩ => app_ok (X := bh X z3 H3 scope ce fp) W10 hD10 hz10 r10 fun z11 W11 => fin W11 nx
  exact codeAny_compStart_list loop (Tn.self X.A 0 _ _ _ st4 loop)
/-- name = [..] in a suite -/
theorem ps_setLcH {i : Nat} {y : Str} {py : Pos} {elt tg iter : Expr} {ifs : List Expr} {scope : Scope} {own : List (Str × Nat)} {pos spos : Pos} {wi : TI} {g : TG} {tt : TT} {te : TE} (hc : HotC X) (hN : X.N.Nodup) (hy : X.N[i]? = some y) (hyl : X.env.scope.names.lookup y = some .local)
    (hsw : swapsWith (.ListComp elt [⟨tg, iter, ifs, 0⟩] scope pos) (some (.Name y py)) spos.line X.env = pure true) (hi : PIH X tg iter wi) (ok : BlkOk X.N X.env.scope scope own)
    (hg : ∀ z H C cl fp, PG (bhx X scope z H C cl fp) tg g) (ht : ∀ z H C cl fp, PTs (bhx X scope z H C cl fp) ifs tt) (he : ∀ z H C cl fp, PE (bhx X scope z H C cl fp) elt te) (hs : ∀ x, foldedSetIterable iter X.env x = pure x) :
    PS X (.Assign [.Name y py] (.ListComp elt [⟨tg, iter, ifs, 0⟩] scope pos) spos) (tAsg (tLc wi g tt te (own.map (·.2))) (gName i)) := by
  refine ⟨fun pins z σ H Dn Vq h => ?_⟩
  rw [exec_Assign_Name_used _ _ _ _ hsw]
  refine wpAny_bind (wpAny_standAt (wpAny_bind ?_))
  show wpAny _ X.A (do let _ ← comprehension (.ListComp elt [⟨tg, iter, ifs, 0⟩] scope pos) scope X.env (firstIterPos [⟨tg, iter, ifs, 0⟩] pos) (newList []) false (eval iter X.env) (some (assign (.Name y py) X.env))) _ _ z
  have h : tLc wi g tt te (own.map (·.2)) σ H (fun x H1 => gName i x σ H1 Dn.nx) := h
  refine wpAny_bind (thn (lc_hot (Qf := fun _ z' => SP X pins Dn .next z') hc hN Vq hi ok hg ht he hs h fun L C z' m H' V' q hn f => ?_) fun _ z' hq => wpAny_pure (wpAny_pure hq))
  show wpAny _ _ (assign (.Name y py) X.env (.ref L)) _ _ _
  refine wpAny_assign_Name (store_ok2 (v := V.ref L) V' hN hy (.inl hyl) rfl (fun z2 V2 ⟨a, sb, ha⟩ => ?_) (.inr hyl))
  obtain ⟨f0, f1, f2, f3, f4, f5⟩ := f
  have haC : C ≠ a := ha.elim (fun u => by rw [u]; exact f1) fun u e => f4 y a u e.symm
  exact ⟨m, hn.sameBut sb haC, fun h3 sb3 => ⟨_, H', V2.turned (t' := z2.toks) (fun b o hb e => (sb3.2 b hb).trans e) f0 f1 f3 f4 f5, q⟩⟩
end
end DL
/-! except .. as n, where n is read in a comprehension: n stands in a cell -/
namespace DL
open PySem PySem.Spec PyProof.Rows L2
section
variable {X : Cx} {pins : List (Addr × Obj)} {σ : L2.St} {H : Hp} {z : Shared}
/-- a name's cell is filled anew or emptied -/
theorem inv_cell {i : Nat} {n : Str} {c : Addr} {u : Option Value} {h' : Heap} (V0 : Inv X pins σ H z) (hN : X.N.Nodup) (hi : X.N[i]? = some n) (hk : X.env.scope.names.lookup n = some .cell) (fn : X.fn n = true) (hc : X.env.cells.lookup n = some c) (new : h'.IsCell c u) (sb : Heap.SameBut c z.heap h') :
    Inv X pins (σ.set i none) H { z with heap := h' } := by
  obtain ⟨m, hn, hl⟩ := id V0.loc
  obtain ⟨w0, o0, e0, d0⟩ := V0.cell n c hc
  have fc := V0.freeC n c hc
  have old : ∀ b o, X.s_0.heap.get? b = some o → b ≠ c := fun b o e => Nat.ne_of_lt (Nat.lt_of_lt_of_le (Heap.lt_size e) (V0.ok.cab n c fn hc))
  refine ⟨V0.ok, V0.os, V0.bare, ⟨fun b o e y hb hx => (sb.2 b (old b o e)).trans (V0.base.keep b o e y hb hx), fun b o e y hb hx => ?_, V0.base.free, fun b o e hx => ?_, V0.base.tups, V0.base.frzs, V0.base.tbls⟩, ⟨m, hn.sameBut sb (Ne.symm (V0.cne n c hc)), fun j y v e1 e2 e3 => ?_⟩, fun y c' e => ?_, V0.free, V0.freeC, fun p hp => ?_, fun b ob e => ?_, by simpa using V0.len⟩
  · obtain ⟨sl, e1⟩ := V0.base.slot b o e y hb hx
    exact ⟨sl, (sb.2 b (old b o e)).trans e1⟩
  · obtain ⟨o', e1⟩ := V0.base.there b o e hx
    exact ⟨o', (sb.2 b (old b o e)).trans e1⟩
  · have hj : j ≠ i := fun q => by
      subst q
      by_cases hlt : j < σ.length
      · rw [List.getElem?_set_self hlt] at e2; cases e2
      · rw [List.getElem?_eq_none (by simpa using hlt)] at e2; cases e2
    rw [List.getElem?_set_ne (Ne.symm hj)] at e2
    obtain ⟨u', r', q | ⟨k, c', e, y'⟩⟩ := hl j y v e1 e2 e3
    · exact ⟨u', r', .inl q⟩
    · refine ⟨u', r', .inr ⟨k, c', e, y'.sameBut sb fun q => ?_⟩⟩
      subst q
      exact hj (nodup_ix hN e1 (V0.ok.inj _ _ _ e hc ▸ hi))
  · by_cases hcc : c' = c
    · subst hcc; exact ⟨_, new⟩
    · obtain ⟨w2, z2⟩ := V0.cell y c' e
      exact ⟨w2, z2.sameBut sb hcc⟩
  · obtain ⟨e, n1, ne, nf, d⟩ := V0.pin p hp
    refine ⟨(sb.2 p.1 fun q => ?_).trans e, n1, ne, nf, d⟩
    rw [q, e0] at e
    exact d w0 (by rw [← Option.some.inj e]; exact d0)
  · refine (V0.hok b ob e).stay (fun y w' hy q => (sb.2 y ?_).trans q) (fun _ q => q) fun _ _ q => q
    rintro rfl
    rcases hy with rfl | hy
    · rw [fc] at e; cases e
    · rw [fc] at hy; cases hy
/-- the name of an except clause goes -/
theorem gone_cell {M : Model} {A : Around} {E : Value → Shared → Prop} {i : Nat} {n : Str} {pos : Pos} {Q : Unit → Shared → Prop} (V0 : Inv X pins σ H z) (hN : X.N.Nodup) (hi : X.N[i]? = some n) (hk : X.env.scope.names.lookup n = some .cell) (fn : X.fn n = true)
    (q : ∀ z', Inv X pins (σ.set i none) H z' → Q () z') : wpAny M A (do bindName X.env n .none; unbindBehindTheSuite X.env n pos) Q E z := by
  obtain ⟨c, hc⟩ := V0.ok.has n (.inl hk)
  obtain ⟨w0, hv⟩ := V0.cell n c hc
  have hk' : X.env.kindOf n = some .cell := hk
  refine wpAny_bind (wpAny_bindName (wpAny_storeName_cell V0.ok.kind hk' hc hv fun h1 c1 s1 => ?_))
  unfold unbindBehindTheSuite unbindName
  refine wpAny_onRaise (wpAny_bind (wpAny_point (wpAny_bind ?_)))
  unfold deleteName
  simp only [hk']
  refine wpAny_bind (wpAny_cellOf hc (wpAny_bind (wpAny_cellGet c1 ?_)))
  simp only [Option.isSome_some, if_true]
  exact wpAny_cellSet c1 fun h2 c2 s2 => wpAny_point (q _ (inv_cell (z := z) (h' := h2) V0 hN hi hk fn hc c2 (s1.trans s2)))
end
section
variable {X : Cx} {x n : Str} {c : Value} {i : Nat} {body suite : List Stmt} {b0 : Stmt} {np pos pos' : Pos} {tb : L2.WX → TS} {ts : Addr → Value → Option Addr → TS} {Wout : L2.WX}
theorem try_cell (hs : X.stack = X.env :: X.outer) (hf : X.env.frame = some X.env.locals) (hN : X.N.Nodup) (hi : X.N[i]? = some n) (hk : X.env.scope.names.lookup n = some .cell) (fn : X.fn n = true) (hc : Names X x c) (tk : L2N.Takes X Wout)
    (hb : ∀ (U : L2.WX) (pn : List (Addr × Obj)) (xe : Value → Shared → Prop), L2N.Takes (X.tr pn xe) U → PassesOwn (model X.prog X.w) X.A X.env xe → PSs (X.tr pn xe) body (tb U))
    (hsu : ∀ (a : Addr) (oe : Obj) (cls : Value) (d : Option Addr) (pn : List (Addr × Obj)), L2N.Zn cls d oe → (∃ vs, oe.data = .fields vs) → PSs (X.suite a ((a, oe) :: pn)) (b0 :: suite) (ts a cls d)) :
    PS X (.Try body [.ExceptHandler (some (.Name x np)) (some n) (b0 :: suite) pos'] [] [] pos) (fun Dv σ H => tb (wAs X.K c i ts Wout Dv) Dv σ H) := by
  refine ⟨fun pins z σ H Dv V0 h => ?_⟩
  have hfr : X.A.frames = some (X.env :: X.outer) := by rw [V0.ok.frames, hs]
  refine wpAny_Try_except (wpAny_mono ((hb (wAs X.K c i ts Wout Dv) (X.pn ++ pins) (fun e z1 => wpAny (model X.prog X.w) X.A (noteFrame e X.env) (fun _ z2 => wpAny (model X.prog X.w) X.A (setFlight e none) (fun _ z3 =>
    wpAny (model X.prog X.w) X.A (handleBy e X.env [.ExceptHandler (some (.Name x np)) (some n) (b0 :: suite) pos']) (SP X pins Dv) X.xe z3) X.xe z2) X.xe z1) (fun u z' xx => ?_) PassesOwn.looking).run [] z σ H Dv (V0.toTry _) h) (fun f z1 hsp => ?_) (fun e z1 he => he))
  · obtain ⟨a, B, zI, pins', σ', H', cls, d, rfl, V1, nb, up, sky, na, os, ag, b, hb1, hyes, hno⟩ := xx
    have J : Inv X pins σ' H' zI := V1.ofTry V0.ok
    rw [hs] at sky
    show wpAny (model X.prog X.w) X.A (noteFrame (.ref a) X.env) _ _ _
    refine L2N.Sky.land L2N.Zn.steady hfr hf sky fun h3 fl3 up3 => ?_
    have J3 : Inv X pins σ' H' { z' with heap := h3 } := J.landed nb fl3.1 (up.trans up3) os ag
    obtain ⟨oe3, vs3, he3, hz3, hd3⟩ := fl3.there
    have nfr : a ∉ frs (X.env :: X.outer) := fun hm => by
      obtain ⟨_, o', e', hnf⟩ := fl3.2.2.1.mem hm
      rw [he3] at e'; cases e'
      exact hnf _ hd3
    have nL : a ≠ X.env.locals := fun q => nfr (List.mem_filterMap.mpr ⟨X.env, List.mem_cons_self, by rw [hf, q]⟩)
    have nF : a ∉ X.fs := fun hm => by
      obtain ⟨e, he, q⟩ := List.mem_filterMap.mp hm
      exact nfr (List.mem_filterMap.mpr ⟨e, List.mem_cons_of_mem _ he, q⟩)
    have S3 := J3.suite he3 hd3 na nL nF
    refine wpAny_handleBy_cons (codeAny_handlers_test ?_) (by intro q; cases q)
    have LM := PySem.W.exm_one (M := model X.prog X.w) (J3.kIn) (show PySem.W.Looks (model X.prog X.w) h3 (typeOf (.ref a)) cls from fun A Q E y k q => wpAny_typeOf_ref (k _ _ he3) (by rw [hz3.1]; exact q)) hb1
    have test : ∀ {Q : Value → Shared → Prop} {E : Value → Shared → Prop}, Q c { z' with heap := h3 } → wpAny (model X.prog X.w) (X.A.mark (some (.ref a))) (eval (.Name x np) X.env) Q E { z' with heap := h3 } := fun {Q E} q => by
      rcases hc with ⟨hg, hdbg, hm | ⟨hm, hv, hnn⟩⟩
      · exact ld_glob (X := X.suite a ((a, oe3) :: (X.pn ++ pins))) S3 hg hm q hdbg
      · exact ld_blt (X := X.suite a ((a, oe3) :: (X.pn ++ pins))) S3 hg hm hv q hnn hdbg
    refine test (LM.here ?_)
    cases b with
    | true =>
      refine codeAny_handlers_suite_as (HandSPX.lands_againZ fl3 fun h4 fl4 up4 => ?_)
      obtain ⟨oe4, vs4, he4, hz4, hd4⟩ := fl4.there
      have S4 := (J.landed nb fl4.1 ((up.trans up3).trans up4) os ag : Inv X pins σ' H' { z' with heap := h4 }).suite he4 hd4 na nL nF
      refine store_ok (X := X.suite a ((a, oe4) :: (X.pn ++ pins))) (v := .ref a) S4 hN hi (.inr hk) rfl (fun z5 S5 => ?_) (.inl fn)
      refine wpAny_mono ((hsu a oe4 cls d (X.pn ++ pins) hz4 ⟨_, hd4⟩).run [] z5 _ H' _ S5 (hyes rfl a na)) (fun f z6 hsp => ?_) (fun _ _ y => False.elim y)
      have fin : ∀ {σ6 : L2.St} {H6 : Hp} {Q : Shared → Prop}, Inv (X.suite a ((a, oe4) :: (X.pn ++ pins))) [] σ6 H6 z6 → (∀ z7, Inv X pins (σ6.set i none) H6 z7 → Q z7) → wpAny (model X.prog X.w) X.A (do bindName X.env n .none; unbindBehindTheSuite X.env n pos') (fun _ z7 => Q z7) X.xe z6 := fun {σ6 H6 Q} S6 q => gone_cell (S6.unsuite V0.ok) hN hi hk fn q
      match f, hsp with
      | .next, ⟨σ6, H6, S6, q6⟩ => exact fin S6 fun z7 J7 => ⟨_, _, J7, q6⟩
      | .brk, ⟨σ6, H6, S6, q6⟩ => exact fin S6 fun z7 J7 => ⟨_, _, J7, q6⟩
      | .cont, ⟨σ6, H6, S6, q6⟩ => exact fin S6 fun z7 J7 => ⟨_, _, J7, q6⟩
      | .ret u, ⟨v6, σ6, H6, S6, r6, q6⟩ => exact fin S6 fun z7 J7 => ⟨_, _, _, J7, r6, q6⟩
    | false =>
      show wpAny _ X.A (handleBy (.ref a) X.env []) _ _ _
      refine wpAny_handleBy_nil ?_
      obtain ⟨k1, k2, k3, oe, vs, T, oT, ts', he, hz, hd, h1, hr⟩ := id fl3
      unfold PySem.passOn
      refine wpAny_bind (wpAny_field he hd h1 ?_)
      rw [if_neg (show ¬ ((Value.ref T == Value.none) = true) from by simp)]
      have fin : wpAny (model X.prog X.w) X.A (setFlight (.ref a) X.env.frame) (fun _ z4 => wpAny (model X.prog X.w) X.A (throw (.ref a) : Sem Flow) (SP X pins Dv) X.xe z4) X.xe { z' with heap := h3 } := by
        rw [hf]
        exact HandSPX.setFlight_upZ fl3 fun h4 hh4 up4 => wpAny_throw (tk _ _ ⟨a, B, zI, pins, σ', H', cls, d, rfl, J, nb, (up.trans up3).trans up4, .inr (.inr (by rw [hs]; exact hh4)), na, os, ag, hno rfl⟩)
      first | exact wpAny_bind (wpAny_pure (wpAny_bind fin)) | exact wpAny_bind fin
  · match f, hsp with
    | .next, ⟨σ', H', J', q⟩ => exact wpAny_execs_nil ⟨σ', H', J'.ofTry V0.ok, q⟩
    | .brk, ⟨σ', H', J', q⟩ => exact ⟨σ', H', J'.ofTry V0.ok, q⟩
    | .cont, ⟨σ', H', J', q⟩ => exact ⟨σ', H', J'.ofTry V0.ok, q⟩
    | .ret u, ⟨v, σ', H', J', r, q⟩ => exact ⟨v, σ', H', J'.ofTry V0.ok, r, q⟩
end
end DL
/-! a draw whose last store stands in an if -/
namespace DL
open PySem PySem.Spec PyProof.Rows L2
section
variable {W : Wd} {G0 H0 G G' H H' : Hp} {E : XK} {X : Cx} {k n : Nat} {env : Env1} {σ : L2.St}
def tTakeA (K : PySem.W.Frag) (b c d md : Int) : TS :=
  tIfS (tAnd (tTest (tOp rEq (tHd K 2) (tK 0))) (tTest (tOp (rI0 fun i j => .bl (decide (i < j))) (tHd K 1) (tCB (fun xs H Q => ∃ p ys, xs = [.ref p] ∧ (SqL K H p ys ∨ SqT K H p ys) ∧ Q (.int ys.length) H) (tCons (tHd K 0) tNil)))))
    (tSeq (tAsg (tOp (rIxL K) (tHd K 0) (tHd K 1)) (gName 2)) (tSeq (tHs 1 (tAddI (tHd K 1) (tK 1))) (tSeq (tHs 3 (tMod (tInt (tAddI (tAddI (tMul (tHd K 3) b) (tMul (tVar 2) c)) (tK d))) (tK md)))
      (tIfS (tTest (tOp (rI0 fun i j => .bl (decide (j ≤ i))) (tVar 2) (tOp (rI CPow fun i j => .int (i ^ j.toNat)) (tK 10) (tK 18)))) (tHs 2 (tVar 2)) tNext))))
    tNext
theorem takeA_ok {K : PySem.W.Frag} {b c d md : Int} {ha hc : Addr} {m : Int} {s2 s3 s4 : Option V} {Dv : Ends} (hne : ha ≠ hc) (hb : -(2 ^ 64) < b ∧ b < 2 ^ 64) (hcc : -(2 ^ 64) < c ∧ c < 2 ^ 64) (hm : md ≠ 0) (h : HdS H0 ha hc H)
    (q : ∀ s2 H', HdS H0 ha hc H' → Dv.nx [some (.ref ha), some (.int m), s2, s3, s4] H') : tTakeA K b c d md Dv [some (.ref ha), some (.int m), s2, s3, s4] H := by
  obtain ⟨⟨cells, i, x, y, z, h1⟩, h2⟩ := h
  refine tHd_int rfl h1 rfl ⟨rfl, _, rfl, ?_⟩
  refine ite2 (fun e => ?_) (fun e => ?_)
  · refine tHd_int rfl h1 rfl ⟨.ref ha, rfl, ha, _, 0, .ref hc, rfl, rfl, SqL.at h1.1, rfl, ?_⟩
    refine ⟨hc, cells.map V.int, rfl, .inl (SqL.at h1.2.1), i, _, rfl, rfl, _, rfl, ?_⟩
    refine ite2 (fun e2 => ?_) (fun e2 => ?_)
    · have e3 : i < (cells.length : Int) := by have := of_decide_eq_true e2; rwa [List.length_map] at this
      obtain ⟨j, rfl⟩ := Int.eq_ofNat_of_zero_le h1.2.2
      have e4 : j < cells.length := by omega
      have e5 : atI (cells.map V.int) ((j : Nat) : Int) = some (.int cells[j]) := atI_nat (by rw [List.getElem?_map, List.getElem?_eq_getElem e4]; rfl)
      refine ⟨.ref ha, rfl, ha, _, 0, .ref hc, rfl, rfl, SqL.at h1.1, rfl, tHd_int rfl h1 rfl ⟨hc, _, _, _, rfl, rfl, SqL.at h1.2.1, e5, ?_⟩⟩
      refine tHd_int rfl h1 rfl ⟨_, _, rfl, rfl, tHs_int (m := 1) rfl h1.1 rfl ?_⟩
      obtain ⟨h1a, h2a⟩ := HdS.put (i' := (j : Int) + 1) hne h1 h2 (by omega) rfl
      refine tHd_int rfl h1a rfl ⟨_, _, rfl, rfl, .inr hb, _, rfl, _, _, rfl, rfl, .inr hcc, _, _, rfl, rfl, _, _, rfl, rfl, .inl ⟨_, rfl, _, _, rfl, rfl, hm, tHs_int (m := 3) rfl h1a.1 rfl ?_⟩⟩
      obtain ⟨h1b, h2b⟩ := HdS.put hne h1a h2a h1a.2.2 rfl
      refine ⟨_, rfl, 10, 18, rfl, rfl, ⟨by decide, by decide, by decide⟩, _, _, rfl, rfl, _, rfl, ?_⟩
      refine ite2 (fun e6 => ?_) (fun e6 => ?_)
      · refine ⟨_, rfl, tHs_int (m := 2) rfl h1b.1 rfl ?_⟩
        obtain ⟨h1c, h2c⟩ := HdS.put hne h1b h2b h1b.2.2 rfl
        exact q _ _ ⟨⟨_, _, _, _, _, h1c⟩, h2c⟩
      · exact q _ _ ⟨⟨_, _, _, _, _, h1b⟩, h2b⟩
    · exact q _ _ ⟨⟨_, _, _, _, _, h1⟩, h2⟩
  · refine ite2 (fun e => Bool.noConfusion e) (fun _ => ?_)
    exact q _ _ ⟨⟨_, _, _, _, _, h1⟩, h2⟩
def tDrawA (K : PySem.W.Frag) (b c d md a1 b1 m1 d1 e1 m2 d2 e2 m3 : Int) : TS := tSeq (tTakeA K b c d md) (tSeq (tUse K) (tMix K a1 b1 m1 d1 e1 m2 d2 e2 m3))
theorem drawA_ok {K : PySem.W.Frag} {b c d md a1 b1 m1 d1 e1 m2 d2 e2 m3 : Int} {ha hc : Addr} {m : Int} {s2 s3 s4 : Option V} {Dv : Ends} (kb0 : -(2 ^ 64) < b ∧ b < 2 ^ 64) (kc0 : -(2 ^ 64) < c ∧ c < 2 ^ 64) (kmd : md ≠ 0) (ka : Md a1) (kb : Md b1) (k1 : Md m1) (k2 : Md m2) (k3 : Md m3) (kd1 : Dg d1) (kd2 : Dg d2)
    (hne : ha ≠ hc) (hm : 1 ≤ m) (hm2 : m < 1073741824) (h : HdS H0 ha hc H) (qr : ∀ r H', 0 ≤ r → r < m → HdS H0 ha hc H' → Dv.rt (.int r) H') : tDrawA K b c d md a1 b1 m1 d1 e1 m2 d2 e2 m3 Dv [some (.ref ha), some (.int m), s2, s3, s4] H :=
  takeA_ok hne kb0 kc0 kmd h fun s2' H1 h1 => use_ok hne hm hm2 h1 (fun H2 h2 => mix_ok hne hm ka kb k1 k2 k3 kd1 kd2 h2 qr) qr
end
end DL
/-! a law that has lambdas itself: its code object is told -/
namespace DL
open PySem PySem.Spec PyProof.Rows L2
section
variable {P : Program} {w : World} {K : PySem.W.Frag} {mg : Str → Option Value} {base : Heap} {k : Nat} {T : List (Addr × Str)} {cls : String → Addr}
theorem law_okC {st s1 : Stmt} {rest : List Stmt} {f : Addr} {N : List Str} {body : Wd → WS} {kV doc pm cdv ct oc : Value} {an od : Option Addr} {osl : Array (Option Value)}
    (lk : K.lookup f = some ⟨oc, od, .func (PySem.W.fnOf "law" "law" (defArgs st) (defBody st) (defScope st) .none kV doc pm an cdv ct), osl⟩) (hcd : PySem.W.codeIn K cdv "law" = true)
    (sc : FnScope N ["script"] (defScope st)) (hb : defBody st = s1 :: rest) (hN : 2 ≤ N.length)
    (h1 : ∀ (A : Around) (outer : List Env) (s : Shared) (H : Hp) (E : XK), Room k (cxOf (L2N.CX P w) P w K mg base N "law" (defScope st) f cdv A outer s H E).A → Passes (L2N.CX P w) (cxOf (L2N.CX P w) P w K mg base N "law" (defScope st) f cdv A outer s H E) E →
      PS (cxOf (L2N.CX P w) P w K mg base N "law" (defScope st) f cdv A outer s H E) s1 (tAsg (tCall (spHand K T) [] E (tCons (tVar 0) tNil)) (gName 1)))
    (hrest : ∀ (hh : Addr × Addr) (G : Hp) (A : Around) (outer : List Env) (s : Shared) (H H1 : Hp) (E : XK), DC ⟨K, some hh, T, cls⟩ E k (cxOf (L2N.CX P w) P w K mg base N "law" (defScope st) f cdv A outer s H E) →
      DSs ⟨K, some hh, T, cls⟩ G H1 E (cxOf (L2N.CX P w) P w K mg base N "law" (defScope st) f cdv A outer s H E) rest (body ⟨K, some hh, T, cls⟩))
    (hS : ∀ hh Y, body ⟨K, some hh, T, cls⟩ ((List.replicate N.length Sl.non).set 1 (.dt (hdD ⟨K, some hh, T, cls⟩))) (dRet fun d => d = .bl true) Y) :
    FnOk P w K mg base (L2N.CX P w) (k + 1) f (PySem.W.fnOf "law" "law" (defArgs st) (defBody st) (defScope st) .none kV doc pm an cdv ct) ["script"] (spLaw K T) := by
  refine fn_of lk hcd sc (fun vs H Q E ⟨a, ns, e, _⟩ => by rw [e]; rfl) (fun A outer s H vs Q E hr h => ?_)
  obtain ⟨a, ns, rfl, hs, hT, q⟩ := h
  have C0 := DC.of_cx (P := P) (w := w) (W := ⟨K, none, T, cls⟩) (mg := mg) (base := base) (x := "law") (f := f) (cdv := cdv) (outer := outer) (H := H) (E := E) sc hr
  rw [hb]
  refine ⟨_, pss_cons (h1 A outer s H E C0.room C0.pass) pss_any, ?_⟩
  have hl : (L2.start N [V.ref a]).length = N.length := by
    unfold L2.start
    rw [List.length_append, List.length_map, List.length_replicate]
    show 1 + (N.length - 1) = N.length
    omega
  refine ⟨.ref a, ?_, a, ns, rfl, hs, hT, fun H' ha hc hh hT' => ?_⟩
  · unfold L2.start; rfl
  · have g : GOk ⟨K, some (ha, hc), T, cls⟩ (fun _ => none) H' := ⟨(fun _ _ z => by cases z), ⟨(fun _ z => by cases z; exact hh), hT'⟩, (fun _ _ => rfl), (fun _ _ z => by cases z)⟩
    obtain ⟨m, t, pt, qt⟩ := hrest (ha, hc) (fun _ => none) A outer s H H' E (DC.of_cx (W := ⟨K, some (ha, hc), T, cls⟩) sc hr)
    refine ⟨t, pt, ?_⟩
    refine qt _ _ _ H' _ (relS_one (i := 1) (a := ha) g hl (by omega)) (m _ (dRet fun d => d = .bl true) _ _ ⟨fun e h => ?_, fun r h => ?_, fun e h => False.elim h, fun e h => False.elim h⟩ (hS (ha, hc) _))
    · cases (show D.non = D.bl true from h)
    · intro v G' H2 sm st' rr
      cases r with
      | dt d =>
        have e : d = .bl true := h
        subst e
        have := rep_bl (show rep K G' (.bl true) v from rr)
        subst this
        exact q H2
      | fr es => cases (show D.lst es = D.bl true from h)
end
end DL
/-! readings in a suite: a comprehension; the exception's context is known -/
namespace DL
open PySem PySem.Spec PyProof.Rows L2 HotX L2H LamX
section
variable {W : Wd} {G0 H0 G G' H H' : Hp} {E : XK} {X : Cx} {k n : Nat} {env : Env1} {σ : L2.St}
/-- as dfp_lc, whatever the places are -/
theorem dfp_lcG {P : TE → Prop} {own : List (Str × Nat)} {fi : WL} {js : List Nat} {w : WG} {ft : WT} {fe : WE} {PI' : TI → Prop} {PG' : TG → Prop} {PT' : TT → Prop} {PE' : TE → Prop}
    (mi : Mono fi) (hi : ∃ wi, PI' wi ∧ ∀ env σ G H (R : It → Hp → Prop), RelS W G0 H0 env σ G H → fi env (fun ds => ∀ J G' H', Gst W G H G' H' → Itok W J G' ds → R J H') (XOk W G0 H0 E) → wi σ H R) (hjs : ∀ j ∈ js, j ∈ own.map (·.2))
    (hg : ∃ g, PG' g ∧ (∀ env d (Q Q' : Env1 → Prop), (∀ e, Q e → Q' e) → w env d Q → w env d Q') ∧
      ∀ env σ G H v d (Q : L2.St → Hp → Prop), RelS W G0 H0 env σ G H → rep W.K G d v → w env d (fun env' => ∀ σ', RelS W G0 H0 env' σ' G H → (∀ vs : List Nat, (∀ j ∈ js, j ∈ vs) → wipe σ' vs = wipe σ vs) → Q σ' H) → g v σ H Q)
    (ht : ∃ t, PT' t ∧ Mono ft ∧ ∀ env σ G H Q, RelS W G0 H0 env σ G H → ft env (QT W G H Q) (XOk W G0 H0 E0) → t σ H Q)
    (he : ∃ t, PE' t ∧ Mono fe ∧ ∀ env σ G H Q, RelS W G0 H0 env σ G H → fe env (QE W G H Q) (XOk W G0 H0 E0) → t σ H Q)
    (hpt : ∀ {wi : TI} {g : TG} {tt : TT} {te : TE}, PI' wi → PG' g → PT' tt → PE' te → P (tLc wi g tt te (own.map (·.2)))) :
    DFp W G0 H0 E P (wLc fi w ft fe (own.map (·.2))) := by
  obtain ⟨wi, pi, qi⟩ := hi
  obtain ⟨g, pg, mg, qg⟩ := hg
  obtain ⟨tt, pt, mt, qt⟩ := ht
  obtain ⟨te, pe, me, qe⟩ := he
  refine ⟨fun env Q Q' X z h => mi _ _ _ _ (fun ds ⟨l, h⟩ => ⟨l, fun X' => lcRun_mono mg mt me ds _ _ z (h X')⟩) h, _, hpt pi pg pt pe, fun env σ G H Q r h => ?_⟩
  refine qi env σ G H _ r (mi _ _ _ _ (fun ds h => ?_) h)
  intro J G1 H1 s1 iok D hD
  have gD1 : G1 D = none := s1.gok.nn hD
  have sD : Gst W G1 H1 G1 (upd H1 D (.lst [])) := Gst.hid s1.gok _ hD
  have hn0 : fr W H D := s1.frn hD
  obtain ⟨hl, hX⟩ := h
  have hrun := hX (XOk W G0 H0 E0)
  refine ⟨fun i m H' => ∃ G' acc es, m = ds.length - i ∧ i ≤ ds.length ∧ Gst W G H G' H' ∧ Same G1 G' ∧ H' D = some (.lst acc) ∧ G' D = none ∧ acc.length ≤ i ∧ reps W.K G' es acc ∧
      lcRun w ft fe (wipeE env (own.map (·.2))) (ds.drop i) (fun ys => QF W G H Q (es ++ ys)) (XOk W G0 H0 E0), ⟨ds.length - 0, G1, [], [], rfl, Nat.zero_le _, s1.trans sD, Same.refl _, upd_same, gD1, Nat.le_refl _, .nil, ?_⟩, ?_⟩
  · rw [List.drop_zero]
    exact hrun
  · rintro i m H' ⟨G', acc, es, em, hle, st, sm, eD, gD, la, ra, hr⟩
    have r' := r.step st
    by_cases hi : i < ds.length
    · have gi : ds[i]? = some ds[i] := List.getElem?_eq_getElem hi
      rw [List.drop_eq_getElem_cons hi] at hr
      refine .inr ⟨iok.go G' H' i _ st.gok sm gi, fun H2 => ∃ G2 acc2 es2, Gst W G H G2 H2 ∧ Same G1 G2 ∧ H2 D = some (.lst acc2) ∧ G2 D = none ∧ acc2.length ≤ i + 1 ∧ reps W.K G2 es2 acc2 ∧
        lcRun w ft fe (wipeE env (own.map (·.2))) (ds.drop (i + 1)) (fun ys => QF W G H Q (es2 ++ ys)) (XOk W G0 H0 E0), fun H2 h => ?_, fun x H2 hy => ?_⟩
      · obtain ⟨G2, acc2, es2, a, b, c, d, e, f, h⟩ := h
        exact ⟨ds.length - (i + 1), by omega, G2, acc2, es2, rfl, hi, a, b, c, d, e, f, h⟩
      · obtain ⟨G2, s2, rp⟩ := iok.yld G' H' i _ x H2 st.gok sm gi hy
        have keepD : ∀ {Ga Ha Gb Hb : Hp}, GOk W Ga Ha → Gst W Ga Ha Gb Hb → ∀ {as}, Ha D = some (.lst as) → Ga D = none → Hb D = some (.lst as) ∧ Gb D = none := fun {Ga Ha Gb Hb} ga sa {as} ea na => by
          refine ⟨sa.keep _ _ ea lst_tbl hn0.1, ?_⟩
          cases q : Gb D with
          | none => rfl
          | some o =>
            rcases sa.new _ _ q with z | z
            · rw [na] at z; cases z
            · exact (z.not ea lst_tbl).elim
        obtain ⟨eD2, gD2⟩ := keepD st.gok s2 eD gD
        have rw0 := (r'.step s2).wipe (own.map (·.2))
        refine qg _ _ G2 H2 x _ _ rw0 rp (mg _ _ _ _ (fun e h => ?_) hr)
        intro σ3 r3 hw3
        refine ⟨?_, ?_⟩
        · have e1 := hw3 (own.map (·.2)) hjs
          rw [e1]
          have : ∀ us vs : List Nat, (∀ u ∈ us, u ∈ vs) → L2.wipe (L2.wipe σ us) vs = L2.wipe σ vs := fun us vs => by
            induction us with
            | nil => intro _; rfl
            | cons u us ih =>
              intro hu
              show L2.wipe ((L2.wipe σ us).set u none) vs = _
              rw [wipe_set (hu u List.mem_cons_self)]
              exact ih fun a ha => hu a (List.mem_cons_of_mem _ ha)
          exact this _ _ fun _ h => h
        · refine qt e σ3 G2 H2 _ r3 (mt _ _ _ _ (fun b h => ?_) h)
          intro G3 H3 s3
          obtain ⟨eD3, gD3⟩ := keepD s2.gok s3 eD2 gD2
          have st3 : Gst W G H G3 H3 := st.trans (s2.trans s3)
          cases b with
          | true =>
            rw [if_pos rfl] at h ⊢
            refine qe e σ3 G3 H3 _ (r3.step s3) (me _ _ _ _ (fun y h => ?_) h)
            intro v G4 H4 s4 rpy
            obtain ⟨eD4, gD4⟩ := keepD s3.gok s4 eD3 gD3
            have st4 : Gst W G H G4 H4 := st3.trans s4
            have sm4 : Same G' G4 := (s2.le.trans s3.le).trans s4.le
            refine ⟨acc, eD4, by omega, G4, acc ++ [v], es ++ [y], ?_, sm.trans sm4, upd_same, gD4, by rw [List.length_append]; simpa using la, (reps_mono sm4 _ _ ra).append (.cons rpy .nil), ?_⟩
            · refine ⟨⟨fun b o z => ?_, st4.gok.w.chg hn0.1 eD4, st4.gok.nm, st4.gok.tb⟩, st4.le, st4.new, fun a o z t n => ?_⟩
              · rw [upd_ne (fun q => by rw [q, gD4] at z; cases z)]; exact st4.gok.le b o z
              · rw [upd_ne (fun q => by subst q; exact hn0.not z t)]; exact st4.keep a o z t n
            · refine lcRun_mono mg mt me _ _ _ (fun ys h => ?_) h
              rw [List.append_assoc]
              exact h
          | false =>
            rw [if_neg Bool.false_ne_true] at h ⊢
            exact ⟨G3, acc, es, st3, sm.trans (s2.le.trans s3.le), eD3, gD3, by omega, reps_mono (s2.le.trans s3.le) _ _ ra, h⟩
    · have e0 : ds.drop i = [] := List.drop_eq_nil_of_le (by omega)
      rw [e0] at hr
      have hr' : QF W G H Q (es ++ []) := hr
      rw [List.append_nil] at hr'
      exact .inl ⟨iok.stop G' H' i st.gok sm (by omega), hr' D acc G' H' st hn0 eD gD ra⟩

theorem dg_tupH {ts : List Expr} {kk : Nat} {n : Nat} {js : List Nat} {u : WGs} {pos : Pos} (hK : X.K = W.K) (h : DGs W G0 H0 X ts js u) (hp : ∀ {g : TGs}, PGs X ts g → PG X (.Tuple ts kk pos) (gTup X.K n g)) : DG W G0 H0 X (.Tuple ts kk pos) js (wGTup n u) := by
  obtain ⟨m, pr, g, p, q⟩ := h
  refine ⟨fun env d Q Q' z ⟨ds, e, l, w⟩ => ⟨ds, e, l, m _ _ _ _ z w⟩, fun env d Q ⟨ds, e, l, w⟩ => ⟨ds, e, l, pr _ _ _ w⟩, _, hp p, fun env σ G H v d Q r rp ⟨ds, e, l, w⟩ => ?_⟩
  subst e
  unfold rep at rp
  obtain ⟨a, xs, rfl, hs, rps⟩ := rp
  refine ⟨a, xs, rfl, ?_, by rw [rps.length]; exact l, q env σ G H xs ds Q r rps w⟩
  rw [hK]
  exact Same.sqT r.gok.le hs
def wItL (f : WE) : WL := fun env Q Y => f env (fun d => ∃ ds, d = .lst ds ∧ Q ds) Y
/-- name = [..] over a list, in a suite -/
theorem ds_setLcH {elt tg iter : Expr} {ifs : List Expr} {scope : Scope} {own : List (Str × Nat)} {pos : Pos} {fl : WE} {js : List Nat} {w : WG} {ft : WT} {fe : WE} {i : Nat} {y : Str} {py spos : Pos} (hc : HotC X) (hK : X.K = W.K) (hN : X.N.Nodup) (ok : BlkOk X.N X.env.scope scope own)
    (hy : X.N[i]? = some y) (hyl : X.env.scope.names.lookup y = some .local) (hsw : swapsWith (.ListComp elt [⟨tg, iter, ifs, 0⟩] scope pos) (some (.Name y py)) spos.line X.env = pure true)
    (hl : DE W G0 H0 E X iter fl) (hjs : ∀ j ∈ js, j ∈ own.map (·.2)) (hg : ∀ z H C cl fp, DG W G0 H0 (bhx X scope z H C cl fp) tg js w) (ht : ∀ z H C cl fp, DTs W G0 H0 E0 (bhx X scope z H C cl fp) ifs ft) (he : ∀ z H C cl fp, DE W G0 H0 E0 (bhx X scope z H C cl fp) elt fe)
    (fs : ∀ x, foldedSetIterable iter X.env x = pure x := by intro _; rfl) :
    DS W G0 H0 E X (.Assign [.Name y py] (.ListComp elt [⟨tg, iter, ifs, 0⟩] scope pos) spos) (wAsg (wN i) (wDat (wLc (wItL fl) w ft fe (own.map (·.2))))) := by
  have he0 := he {} (fun _ => none) (0 : Nat) [] []
  have ht0 := ht {} (fun _ => none) (0 : Nat) [] []
  have hg0 := hg {} (fun _ => none) (0 : Nat) [] []
  obtain ⟨ml, tl, pl, ql⟩ := hl
  have h : DFp W G0 H0 E (fun t => PS X (.Assign [.Name y py] (.ListComp elt [⟨tg, iter, ifs, 0⟩] scope pos) spos) (tAsg t (gName i))) (wLc (wItL fl) w ft fe (own.map (·.2))) :=
    dfp_lcG (PI' := PIH X tg iter) (PG' := fun g => ∀ z H C cl fp, PG (bhx X scope z H C cl fp) tg g) (PT' := fun t => ∀ z H C cl fp, PTs (bhx X scope z H C cl fp) ifs t) (PE' := fun t => ∀ z H C cl fp, PE (bhx X scope z H C cl fp) elt t)
      (fun env Q Q' Y z w => ml _ _ _ _ (fun d ⟨ds, e, w⟩ => ⟨ds, e, z _ w⟩) w) ⟨_, pi_listH pl, fun env σ G H R r w => ql env σ G H _ r (ml _ _ _ _ (fun d ⟨ds, e, w⟩ => by
        subst e
        intro v G1 H1 s1 rp
        obtain ⟨a, xs, rfl, hs, r1⟩ := rep_lst rp
        exact ⟨a, rfl, ⟨xs, SqL.at (s1.gok.le _ _ hs)⟩, w _ G1 H1 s1 (.list hK hs r1)⟩) w)⟩ hjs
      ⟨_, fun z H C cl fp => (hg z H C cl fp).can, hg0.mono, fun env σ G H v d Q r rp w => ⟨env, G, d, r, rp, w⟩⟩
      ⟨_, fun z H C cl fp => (ht z H C cl fp).can, ht0.mono, fun env σ G H Q r w => ⟨env, G, r, w⟩⟩
      ⟨_, fun z H C cl fp => (he z H C cl fp).can, he0.mono, fun env σ G H Q r w => ⟨env, G, r, w⟩⟩
      (fun a b c d => ps_setLcH hc hN hy hyl hsw a ok b c d fs)
  exact h.setD
end
section
variable {W : Wd} {G0 H0 G G' H H' : Hp} {E : XK} {X : Cx} {k n : Nat} {env : Env1} {σ : L2.St}
theorem ds_tryC {th : PD → PX → Prop} {tl : XK → Hp → VK → Prop} {a x nm q : Str} {CS c' f : Addr} {i : Nat} {b0 : Stmt} {suite : List Stmt} {p1 p2 p3 np pos' pos : Pos} {fs : Addr → Ex → WS} {ok : Ex → Prop}
    (hs : X.stack = X.env :: X.outer) (hf : X.env.frame = some X.env.locals) (hK : X.K = W.K) (hN : X.N.Nodup) (hi : X.N[i]? = some nm) (hk : X.env.scope.names.lookup nm = some .cell) (fn : X.fn nm = true) (hc : Names X x (.ref CS)) (tk : L2N.Takes X (fun _ _ _ _ => False))
    (act : ∀ (U : L2.WX) (pn : List (Addr × Obj)) (xe : Value → Shared → Prop) (E : XK) (p1 p2 : Pos), L2N.Takes (X.tr pn xe) U → (∀ cls d σ' H', E cls d H' → U cls d σ' H') →
      PE (X.tr pn xe) (.Call (.Name a p1) [] [] p2) (fun σZ HZ Q => σZ[0]? = some (some (.ref f)) ∧ HZ c' = some (CodeO c' q) ∧ tl E HZ Q))
    (hsw : ∀ pn xe, swapsWith (.Call (.Name a p1) [] [] p2) none p3.line (X.tr pn xe).env = pure false)
    (hth : ∀ Q Q' Y Y', (∀ d, Q d → Q' d) → (∀ ex, Y ex → Y' ex) → th Q Y → th Q' Y')
    (htl : ∀ G' H' E Q', Gst W G0 H0 G' H' → th (QE W G' H' Q') (XOk W G' H' E) → tl E H' Q')
    (hcat : ∀ ex, ok ex → PySem.W.exmOne X.K (.ref (W.cls ex.nm)) (.ref CS) = some true)
    (hok : ∀ a ex env D Y, fs a ex env D Y → ok ex) (hfm : ∀ a ex, MonoS (fs a ex))
    (hc' : H0 c' = some (CodeO c' q))
    (hsu : ∀ (a : Addr) (oe : Obj) (ex : Ex) (dx : Option Addr) (pn : List (Addr × Obj)) (G H : Hp), L2N.Zn (.ref (W.cls ex.nm)) dx oe → (∃ vs, oe.data = .fields vs) → Held W G H ex (.ref (W.cls ex.nm)) dx → ok ex → DSs W G H E0 (X.suite a ((a, oe) :: pn)) (b0 :: suite) (fs a ex)) :
    DS W G0 H0 E0 X (.Try [.Expr (.Call (.Name a p1) [] [] p2) p3] [.ExceptHandler (some (.Name x np)) (some nm) (b0 :: suite) pos'] [] [] pos) (fun env D Y => env[0]? = some (.dt (.vr (.ref f))) ∧ wTryL th X.N.length i fs env D Y) := by
  have hil : i < X.N.length := (List.getElem?_eq_some_iff.mp hi).1
  refine ⟨fun env D D' Y z ⟨h0, h⟩ => ⟨h0, hth _ _ _ _ (fun _ h => z.nx _ h) (fun ex h a Y' => hfm a ex _ _ _ _ (gone_le z) (h a Y')) h⟩, _,
    try_cell hs hf hN hi hk fn hc tk (tb := fun U D σ H => ∃ Ech : XK, (∀ cls d σ' H', Ech cls d H' → σ'.length = X.N.length → U cls d σ' H') ∧ σ[0]? = some (some (.ref f)) ∧ H c' = some (CodeO c' q) ∧ tl Ech H (fun _ H' => D.nx σ H'))
      (fun U pn xe tk2 _ => ?_) (ts := fun a cls d D σ H => ∃ ex dx G1 H1 G env, cls = .ref (W.cls ex.nm) ∧ d = dx ∧ Held W G1 H1 ex (.ref (W.cls ex.nm)) dx ∧ ok ex ∧ RelS W G1 H1 env σ G H ∧ fs a ex env (dnOf W G1 H1 G D) (XOk W G1 H1 E0))
      (fun a oe cls d pn hz hfl => ?_), fun env σ G H Dv r h => ?_⟩
  · -- the body
    refine pss_one ⟨fun pins s σ H D I ⟨Ech, hW, h0, h1, h2⟩ => ?_⟩
    have hp := act _ pn xe Ech p1 p2 (takes_len tk2) (fun cls d σ' H' h hl => hW cls d σ' H' h hl)
    exact (ps_expr hp (hsw pn xe)).run pins s σ H D I ⟨h0, h1, h2⟩
  · -- the suite
    refine ⟨fun pins s σ H D I ⟨ex, dx, G1, H1, G, env, e1, e2, hh, hk, r, w⟩ => ?_⟩
    subst e1 e2
    obtain ⟨_, t, pt, qt⟩ := hsu a oe ex d pn G1 H1 hz hfl hh hk
    exact pt.run pins s σ H D I (qt env σ G H D r w)
  · obtain ⟨h0, h⟩ := h
    obtain ⟨v0, a0, b0⟩ := r.dt 0 _ h0
    have := rep_vr b0
    subst this
    have hcH : H c' = some (CodeO c' q) := r.st.keep c' _ hc' (fun ps z => by cases z) fun m => by
      rcases m with ⟨hh, eh, z⟩ | ⟨p, hp, z⟩
      · obtain ⟨_, cells, i, x, y, z', g1, g2, _⟩ := r.w0.hand hh eh
        rcases z with z | z
        · rw [z, g1] at hc'; cases hc'
        · rw [z, g2] at hc'; cases hc'
      · obtain ⟨ps, g1, _⟩ := r.w0.tabs p hp
        rw [z, g1] at hc'; cases hc'
    refine ⟨fun cls d H2 => ∀ σ' : L2.St, σ'.length = X.N.length → wAs X.K (.ref CS) i (fun a cls d D σ H => ∃ ex dx G1 H1 G env, cls = .ref (W.cls ex.nm) ∧ d = dx ∧ Held W G1 H1 ex (.ref (W.cls ex.nm)) dx ∧ ok ex ∧ RelS W G1 H1 env σ G H ∧ fs a ex env (dnOf W G1 H1 G D) (XOk W G1 H1 E0)) (fun _ _ _ _ => False) Dv cls d σ' H2, fun cls d σ' H2 h hl => h σ' hl, a0, hcH, htl G H _ _ r.st (hth _ _ _ _ (fun d h => ?_) (fun ex h => ?_) h)⟩
    · intro v G2 H2 s2 _
      exact h σ G2 H2 s2.le (r.step s2)
    · intro cls dx G2 H2 s2 hx σ' hl
      have ecl := hx.1
      subst ecl
      refine ⟨true, hcat ex (hok _ _ _ _ _ (h (0 : Nat) (fun _ => True))), fun _ a na => ?_, fun z => by cases z⟩
      refine ⟨ex, dx, G2, H2, G2, _, rfl, rfl, ⟨fun G3 H3 s3 => hx.step s3 s2.gok.w⟩, hok _ _ _ _ _ (h a (fun _ => True)), relS_one s2.gok hl hil, ?_⟩
      have s02 : Gst W G0 H0 G2 H2 := r.st.trans s2
      have base : ∀ {e : Env1} {σ'' : L2.St} {G3 H3 : Hp}, RelS W G2 H2 e σ'' G3 H3 → RelS W G0 H0 (e.set i .non) (σ''.set i none) G3 H3 := fun r3 => (r3.rebase s02 r.w0).set_non
      have hle : (gone i (dnOf W G0 H0 G Dv)).le (dnOf W G2 H2 G2 { nx := fun σ' H' => Dv.nx (σ'.set i none) H', rt := Dv.rt, bk := fun σ' H' => Dv.bk (σ'.set i none) H', ct := fun σ' H' => Dv.ct (σ'.set i none) H' }) :=
        ⟨fun e h σ'' G3 H3 sm r3 => h _ G3 H3 (s2.le.trans sm) (base r3), fun rs h v G3 H3 sm st rp => h v G3 H3 (s2.le.trans sm) (s02.trans st) (by
            cases rs with
            | dt d => exact rp
            | fr ds =>
              obtain ⟨p, xs, a1, a2, a3, a4, a5⟩ := rp
              exact ⟨p, xs, a1, a2, a3, s02.fr a4, a5⟩), fun e h σ'' G3 H3 sm r3 => h _ G3 H3 (s2.le.trans sm) (base r3), fun e h σ'' G3 H3 sm r3 => h _ G3 H3 (s2.le.trans sm) (base r3)⟩
      exact hfm a ex _ _ _ _ hle (h a _)
end
end DL
/-! a tuple of types; a def that calls itself -/
namespace DL
open PySem PySem.Spec PyProof.Rows L2
section
variable {W : Wd} {X : Cx}
theorem pa_tyn : PA X [] (tTys []) := pa_nil
theorem pa_tyc {x : Str} {pos : Pos} {t : String} {es : List Expr} {ns : List String} (hg : Gl X x) (hm : X.mg x = none) (hv : bootBuiltins x = some (.type t)) (hr : PA X es (tTys ns))
    (hn : x ≠ "__name__" := by decide) (hdb : (x == ("__debug__" : Str)) = false := by decide) (hs : starEach (.Name x pos :: es) X.env = (false, eval (.Name x pos) X.env) :: starEach es X.env := by rfl) : PA X (.Name x pos :: es) (tTys (t :: ns)) := by
  have h := pa_cons (pe_bltn (v := .ty t) hg hm hv rfl hn hdb) hr hs
  exact h
end
theorem mulD_mono (a b : D) (Q Q' : PD) (z : ∀ d, Q d → Q' d) (h : mulD a b Q) : mulD a b Q' := lift_mul (W := ⟨[], none, [], fun _ => (0 : Nat)⟩).mono _ _ _ _ z h
theorem addD_mono (a b : D) (Q Q' : PD) (z : ∀ d, Q d → Q' d) (h : addD a b Q) : addD a b Q' := lift_add (W := ⟨[], none, [], fun _ => (0 : Nat)⟩).mono _ _ _ _ z h
section
variable {W : Wd} {P : Program} {w : World} {mg : Str → Option Value} {base : Heap} {x : Str} {k n : Nat}
/-- before the first round: no call is told -/
def S_none : SpecD := fun _ _ _ => False
theorem CalD.none {st : Stmt} {f : Addr} {fd : FuncData} {N ps : List Str} (F : Fun W.K x x st f fd) (hm : mg x = some (.ref f)) (hb : Binds W.K fd ps []) (sc : FnScope N ps (defScope st)) : CalD W P w mg base x (k + 1) ps.length S_none := by
  refine ⟨fun ds Q Q' Y Y' _ _ h => h, f, fd, ps, hm, F.kp, hb, ?_⟩
  exact okN F sc (fun vs H Q E h => h.1) (fun cdv A outer s H vs Q E hr h => by
    obtain ⟨_, G, ds, _, _, hs⟩ := h
    exact hs.elim)
end
end DL
/-! three names at once, the last of them a new list -/
namespace DL
open PySem PySem.Spec PyProof.Rows L2
section
variable {W : Wd} {G0 H0 G G' H H' : Hp} {E : XK} {X : Cx} {k n : Nat} {env : Env1} {σ : L2.St}
def wPar3 (i j l : Nat) (g : WM) : WS := fun env D Y => g env (fun rs => ∃ a b c, rs = [.dt a, .dt b, .fr c] ∧ D.nx (((env.set i (.dt a)).set j (.dt b)).set l (.ow c))) Y
theorem ds_par3 {i j l : Nat} {st : Stmt} {es : List Expr} {g : WM} (hil : i ≠ l) (hjl : j ≠ l) (hp : ∀ ta, PA X es ta → PS X st (tPar3 i j l ta)) (ha : DM W G0 H0 E X es g) : DS W G0 H0 E X st (wPar3 i j l g) := by
  obtain ⟨m, t, pt, q⟩ := ha
  refine ⟨fun env D D' Y z w => m _ _ _ _ (fun rs ⟨a, b, c, e, w⟩ => ⟨a, b, c, e, z.nx _ w⟩) w, _, hp _ pt, fun env σ G H Dv r w => ?_⟩
  refine q env σ G H [] _ r (fun p hp => by cases hp) (m _ _ _ _ (fun rs w => ?_) w)
  obtain ⟨a, b, c, rfl, w⟩ := w
  intro vs G1 H1 s1 rm
  have hb : ∀ p, fr W H p → fr W H0 p := fun p h => r.st.fr h
  have old : ∀ (l : Nat) es p, env[l]? = some (.ow es) → σ[l]? = some (some (.ref p)) → ¬ fr W H p := fun l es p e1 e2 z => by
    obtain ⟨p', xs, k1, k2, _⟩ := r.ow l es e1
    rw [e2] at k1; cases k1
    exact z.not k2 lst_tbl
  obtain ⟨v1, r1', e1, rp1, v2, r2', e2, rp2, p, xs, r3', e3, _, k1, k2, k3, k4, e4⟩ := rm
  have e4' : r3' = [] := e4
  subst e1 e2 e3 e4'
  refine ⟨v1, v2, .ref p, rfl, ?_⟩
  have r1 := r.step s1
  have ha2 : repR W H G1 H1 (.dt a) v1 := rp1
  have hb2 : repR W H G1 H1 (.dt b) v2 := rp2
  have hc2 : repR W H G1 H1 (.fr c) (.ref p) := ⟨p, xs, rfl, k1, k2, k3, k4⟩
  have ra := r1.set_rs (i := i) hb ha2 fun l es p nl ev ⟨ds, ea⟩ el z => by cases ea
  have rb := ra.set_rs (i := j) hb hb2 fun l es p nl ev ⟨ds, ea⟩ el z => by cases ea
  refine w _ G1 _ s1.le (rb.set_rs (i := l) hb hc2 fun l' es p' nl ev ⟨ds, eb⟩ el z => ?_)
  cases ev
  by_cases h1 : j = l'
  · subst h1
    have li : j < (env.set i (Rs.dt a).sl).length := by
      have := (List.getElem?_eq_some_iff.mp el).1
      rwa [List.length_set] at this
    rw [List.getElem?_set_self li] at el
    cases el
  · rw [List.getElem?_set_ne h1] at el z
    by_cases h2 : i = l'
    · subst h2
      have li : i < env.length := by
        have := (List.getElem?_eq_some_iff.mp el).1
        rwa [List.length_set] at this
      rw [List.getElem?_set_self li] at el
      cases el
    · rw [List.getElem?_set_ne h2] at el z
      exact old l' es _ el z k3
theorem de_mstr0 {o e : Expr} {r : V → List V → Hp → VK → Prop} {g : D → List D → PD → Prop} {fo : WE} (hp : ∀ to, PE X o to → PE X e (tBM X.K "str" r to tNil)) (l : LiftM W r isStr g) (ho : DE W G0 H0 E X o fo) :
    DE W G0 H0 E X e (wMt isStr g fo wNil) := by
  obtain ⟨mo, to, po, qo⟩ := ho
  refine ⟨fun env Q Q' Y z w => mo _ _ _ _ (fun o ⟨a, w⟩ => ⟨a, l.mono _ _ _ _ z w⟩) w, _, hp _ po, fun env σ G H Q r w => ?_⟩
  refine qo env σ G H _ r (mo _ _ _ _ (fun o w => ?_) w)
  obtain ⟨⟨s, rfl⟩, w⟩ := w
  intro x G1 H1 s1 rx
  refine ⟨by rw [rep_str rx]; rfl, ?_⟩
  exact l.run G1 H1 x [] _ [] Q s1.gok rx .nil (l.mono _ _ _ _ (fun d h => QE.step s1 h) w)
end
end DL
/-! LETTERS.index(c), ord(c), xs[i] within xs[i] += .., tuple * n, max -/
namespace DL
open PySem PySem.Spec PyProof.Rows L2
def rSIdx : V → List V → Hp → VK → Prop := fun x xs H Q => ∃ (a b : Str) (k : Nat), x = .str a ∧ xs = [.str b] ∧ Txt.index0 a b = some k ∧ Q (.int (k : Nat)) H
section
variable {X : Cx}
theorem mt_sidx : MtR X "str.index" rSIdx := by
  intro pins s σ H x xs v us Q I rx rs h
  obtain ⟨a, b, k, rfl, rfl, hk, hy⟩ := h
  obtain ⟨t, rfl⟩ := rx
  cases rs with
  | cons r1 rs =>
    cases rs
    obtain ⟨u, rfl⟩ := r1
    unfold Txt.index0 at hk
    cases q : Builtin.Str.occurrences a b 0 a.length 1 with
    | nil => rw [q] at hk; cases hk
    | cons j rest =>
      rw [q] at hk
      have e : j = k := Option.some.inj hk
      subst e
      exact PySem.SC.index q ⟨.int (j : Nat), H, I.tok _, ⟨_, rfl⟩, hy⟩
theorem pget_list : PGet X (rIxL X.K) := by
  intro pins s σ H x y v u Q I rx ry h
  obtain ⟨p, xs, i, z, rfl, rfl, hq, he, q⟩ := h
  cases rx
  obtain ⟨t, rfl⟩ := ry
  obtain ⟨its, r, pl, hz⟩ := I.list hq
  obtain ⟨j, h1, h2, h3, h4, h5⟩ := atI_get he
  obtain ⟨w, ew, rw'⟩ := r.get h2
  have hl := r.length
  have hn := line63
  have fin : EP X pins σ Q w s := ⟨z, H, I, rw', q⟩
  by_cases h0 : 0 ≤ i
  · have hj : i.toNat = j := by
      rw [seqIndex_of h0 h5] at h1
      exact Option.some.inj h1
    exact getItem_listL pl.isList h0 (by omega) (by rw [hj]; simpa using ew) fin
  · have hj : (i + (its.toArray.size : Int)).toNat = j := by
      rw [seqIndex_neg (by omega) h4] at h1
      rw [List.size_toArray, ← hl]
      exact Option.some.inj h1
    exact wpAny_getItem_list_neg pl.isList (by omega) (by rw [List.size_toArray] <;> omega) (by omega) (by rw [hj]; simpa using ew) fin
theorem tuple_mul1 (l : Addr) (items : Array Value) (n : Nat) (dd : Option Addr) (sl : Array (Option Value)) (u : Tok) :
    Meets (Builtin.«tuple.__mul__» ⟨[.ref l, .int 1 u], []⟩) (fun _ R s => s.heap.get? l = some { cls := .type "tuple", dict := dd, data := .seq items n, slots := sl } ∧ R (.ok (.ret (Value.ref l))) s) :=
  .of_wp fun prog w A R s h => by
    obtain ⟨hp, g, d, tk, os⟩ := s
    obtain ⟨hl, h⟩ := h
    have f1 := AutoSeq1.idx_int
    have c0 : (decide ((1 : Int) < -(2 ^ 63)) || decide ((1 : Int) ≥ 2 ^ 63)) = false := by decide
    have c1 : (items.isEmpty || (1 : Int) == 1) = true := by rw [show ((1 : Int) == 1) = true by decide, Bool.or_true]
    wp_walk using wpAny_loadPart' hl
    repeat (first
      | (refine wpAny_ite_false (decide_eq_false (by rw [c0]; exact Bool.false_ne_true)) ?_; wp_walk using wpAny_loadPart' hl)
      | (refine wpAny_ite_true (decide_eq_true (by rw [c1])) ?_; wp_walk using wpAny_loadPart' hl))
    exact ⟨_, rfl, h⟩
def rRepT1 (K : PySem.W.Frag) : R2 := fun x y H Q => ∃ l xs, x = .ref l ∧ y = .int 1 ∧ SqT K H l xs ∧ Q (.ref l) H
theorem op_repT1 : OpR X (binaryOp .Mult) (rRepT1 X.K) := by
  intro pins s σ H x y v u Q I rx ry h
  obtain ⟨l, xs, rfl, rfl, hT, q⟩ := h
  cases rx
  obtain ⟨t, rfl⟩ := ry
  obtain ⟨its, r, ⟨⟨cls, dd, data, sl⟩, ho, hc, n, hd⟩, hs⟩ := I.tuple hT
  simp only at hc hd
  subst hc hd
  refine wpAny_binaryOp_repeat_ref (T := "tuple") (U := "int") (by decide) ⟨_, ho, rfl⟩ (fun s' => typeIs_int s' 1 t) noFill_tuple_mul F.fills_int_mul F.slot_int_rmul repeat_tuple F.slot_int_index.lookup
    (call_meets F.slot_int_rmul (typeIs_int s 1 t) F.entry_int_rmul (F.args_int_rmul_2 _ _) (int_rmul_tuple 1 t l its.toArray n dd sl)
      ⟨ho, rfl, ⟨_, ho, rfl⟩, call_meets F.slot_tuple_mul ⟨_, ho, rfl⟩ F.entry_tuple_mul (F.args_tuple_mul_2 _ _) (tuple_mul1 l its.toArray n dd sl t) ⟨ho, ?_⟩⟩)
  exact ⟨.ref l, H, I, rfl, q⟩
def rRepTA (K : PySem.W.Frag) : R2 := fun x y H Q => rRepT K x y H Q ∨ rRepT1 K x y H Q
theorem op_repTA : OpR X (binaryOp .Mult) (rRepTA X.K) := op_repT.or op_repT1
end
section
variable {W : Wd} {G0 H0 G G' H H' : Hp} {E : XK} {X : Cx} {k n : Nat} {env : Env1} {σ : L2.St}
def repTD : D → D → PD → Prop := fun a b Q => ∃ (ds : List D) (k : Int), a = .tup ds ∧ b = .int k ∧ ds ≠ [] ∧ 1 ≤ k ∧ k ≤ 1000 ∧ ds.length ≤ 1000 ∧ Q (.tup (List.replicate k.toNat ds).flatten)
theorem lift_repT : Lift2 W (rRepTA W.K) repTD := by
  refine ⟨fun a b Q Q' z ⟨ds, k, h1, h2, h3, h4, h5, h6, h⟩ => ⟨ds, k, h1, h2, h3, h4, h5, h6, z _ h⟩, fun G H x y a b Q g rx ry ⟨ds, k, h1, h2, h3, h4, h5, h6, h⟩ => ?_⟩
  subst h1 h2
  obtain ⟨p, xs, rfl, hs, r1⟩ := rep_tup rx
  by_cases e : k = 1
  · subst e
    refine .inr ⟨p, xs, rfl, rep_int ry, Same.sqT g.le hs, ?_⟩
    have e1 : (List.replicate (Int.toNat 1) ds).flatten = ds := rep_one ds
    rw [e1] at h
    exact h.here g rx
  · refine .inl ⟨p, k, xs, rfl, rep_int ry, Same.sqT g.le hs, fun z => ?_, by omega, h5, by rw [r1.length]; exact h6, h.tup g r1.flat⟩
    subst z
    have := r1.length
    exact h3 (List.eq_nil_of_length_eq_zero this.symm)
theorem de_mulT {a b : Expr} {fa fb : WE} {pos : Pos} (B : DB0 W X) (ha : DE W G0 H0 E X a fa) (hb : DE W G0 H0 E X b fb) : DE W G0 H0 E X (.BinOp a .Mult b pos) (wOp2 repTD fa fb) := by
  have o := op_repTA (X := X)
  rw [B.hK] at o
  exact de_op o lift_repT ha hb
def gSIdx : D → List D → PD → Prop := fun o ds Q => ∃ (s : List Nat) (c k : Nat), o = .str s ∧ ds = [.str [c]] ∧ Txt.index0 (zs s) (zs [c]) = some k ∧ Q (.int (k : Nat))
theorem lift_sidx : LiftM W rSIdx isStr gSIdx :=
  ⟨fun o ds Q Q' z ⟨s, c, k, a, b, e, h⟩ => ⟨s, c, k, a, b, e, z _ h⟩, fun G H x vs o ds Q g ro rs ⟨s, c, k, a, b, e, h⟩ => by
    subst a b
    obtain ⟨v, rfl, rv⟩ := reps1 rs
    have e1 := rep_str ro
    have e2 := rep_str rv
    subst e1 e2
    exact ⟨_, _, k, rfl, rfl, e, QE.here g rep_int' h⟩⟩
def ordD : List D → PD → Prop := fun ds Q => ∃ c : Nat, ds = [.str [c]] ∧ Q (.int (c : Nat))
theorem lift_ord : LiftN W (fun xs H Q => ∃ x, xs = [.str x] ∧ x.length = 1 ∧ Q (.int (x.cps.getD 0 0 : Nat)) H) ordD :=
  ⟨fun ds Q Q' z ⟨i, e, q⟩ => ⟨i, e, z _ q⟩, fun G H vs ds Q g rp ⟨c, e, q⟩ => by
    subst e
    obtain ⟨v, rfl, r⟩ := reps1 rp
    exact ⟨zs [c], by rw [rep_str r], rfl, q.here g rep_int'⟩⟩
end
end DL
/-! dict(list of pairs) as data -/
namespace DL
open PySem PySem.Spec PyProof.Rows L2
def kyD : Key → D
  | .inl i => .int i
  | .inr x => .str x.cps.toList
def puD (kds : List (Key × D)) (k : Key) (d : D) : List (Key × D) :=
  if (kds.any fun kd => decide (kd.1 = k)) = true then kds.map (fun kd => if kd.1 = k then (kd.1, d) else kd) else kds ++ [(k, d)]
def mgD (kds more : List (Key × D)) : List (Key × D) := more.foldl (fun acc kd => puD acc kd.1 kd.2) kds
def kdr (K : PySem.W.Frag) (G : Hp) : List (Key × D) → List (Key × V) → Prop
  | [], kvs => kvs = []
  | kd :: r, kvs => ∃ v r', kvs = (kd.1, v) :: r' ∧ rep K G kd.2 v ∧ kdr K G r r'
section
variable {K : PySem.W.Frag} {G H : Hp}
theorem kdr.any : ∀ {kds : List (Key × D)} {kvs : List (Key × V)} {k : Key}, kdr K G kds kvs → (kvs.any fun kv => decide (kv.1 = k)) = (kds.any fun kd => decide (kd.1 = k))
  | [], kvs, k, h => by
    have e : kvs = [] := h
    rw [e]; rfl
  | kd :: r, kvs, k, h => by
    obtain ⟨v, r', rfl, _, hr⟩ := h
    rw [List.any_cons, List.any_cons, kdr.any hr]
theorem kdr.app : ∀ {kds es : List (Key × D)} {kvs us : List (Key × V)}, kdr K G kds kvs → kdr K G es us → kdr K G (kds ++ es) (kvs ++ us)
  | [], es, kvs, us, h, h2 => by
    have e : kvs = [] := h
    rw [e]; exact h2
  | kd :: r, es, kvs, us, h, h2 => by
    obtain ⟨v, r', rfl, h1, hr⟩ := h
    exact ⟨v, r' ++ us, rfl, h1, kdr.app hr h2⟩
theorem kdr.upd : ∀ {kds : List (Key × D)} {kvs : List (Key × V)} {k : Key} {d : D} {v : V}, kdr K G kds kvs → rep K G d v → kdr K G (kds.map fun kd => if kd.1 = k then (kd.1, d) else kd) (kvs.map fun kv => if kv.1 = k then (kv.1, v) else kv)
  | [], kvs, k, d, v, h, _ => by
    have e : kvs = [] := h
    rw [e]; rfl
  | kd :: r, kvs, k, d, v, h, h2 => by
    obtain ⟨u, r', rfl, h1, hr⟩ := h
    rw [List.map_cons, List.map_cons]
    by_cases e : kd.1 = k
    · rw [if_pos e, if_pos (show (kd.1, u).1 = k from e)]
      exact ⟨v, _, rfl, h2, kdr.upd hr h2⟩
    · rw [if_neg e, if_neg (show ¬ (kd.1, u).1 = k from e)]
      exact ⟨u, _, rfl, h1, kdr.upd hr h2⟩
theorem kdr.put {kds : List (Key × D)} {kvs : List (Key × V)} {k : Key} {d : D} {v : V} (h : kdr K G kds kvs) (h2 : rep K G d v) : kdr K G (puD kds k d) (putK kvs k v) := by
  unfold puD putK
  rw [h.any]
  by_cases e : (kds.any fun kd => decide (kd.1 = k)) = true
  · rw [if_pos e, if_pos e]; exact h.upd h2
  · rw [if_neg e, if_neg e]; exact h.app ⟨v, [], rfl, h2, rfl⟩
theorem kdr.merge : ∀ {more : List (Key × D)} {ms : List (Key × V)} {kds : List (Key × D)} {kvs : List (Key × V)}, kdr K G kds kvs → kdr K G more ms → kdr K G (mgD kds more) (mergeK kvs ms)
  | [], ms, kds, kvs, h, h2 => by
    have e : ms = [] := h2
    rw [e]; exact h
  | kd :: r, ms, kds, kvs, h, h2 => by
    obtain ⟨v, r', rfl, h1, hr⟩ := h2
    exact kdr.merge (kds := puD kds kd.1 kd.2) (kvs := putK kvs kd.1 v) (h.put h1) hr
theorem kdr.keys : ∀ {kds : List (Key × D)} {kvs : List (Key × V)}, kdr K G kds kvs → kvs.map (·.1) = kds.map (·.1) ∧ reps K G (kds.map (·.2)) (kvs.map (·.2))
  | [], kvs, h => by
    have e : kvs = [] := h
    rw [e]; exact ⟨rfl, .nil⟩
  | kd :: r, kvs, h => by
    obtain ⟨v, r', rfl, h1, hr⟩ := h
    obtain ⟨a, b⟩ := hr.keys
    exact ⟨by rw [List.map_cons, List.map_cons, a], .cons h1 b⟩
theorem rep_key {k : Key} {v : V} (h : rep K G (kyD k) v) : v = kV k := by
  cases k with
  | inl i => exact rep_int h
  | inr x => rw [rep_str h]; rfl
/-- the pairs as they stand -/
theorem pairs_at : ∀ {kds : List (Key × D)} {xs : List V}, reps K G (kds.map fun kd => .tup [kyD kd.1, kd.2]) xs → ∃ (ps : List Addr) (kvs : List (Key × V)), xs = ps.map V.ref ∧ Paired (fun p kv => SqT K G p [kV kv.1, kv.2]) ps kvs ∧ kdr K G kds kvs
  | [], xs, h => ⟨[], [], by rw [h.nil_eq]; rfl, .nil, rfl⟩
  | kd :: r, xs, h => by
    obtain ⟨x, xr, rfl, h1, h2⟩ := h.uncons
    obtain ⟨ps, kvs, e, pr, kr⟩ := pairs_at h2
    obtain ⟨a, ys, rfl, hs, r1⟩ := rep_tup h1
    obtain ⟨u, v, rfl, q1, q2⟩ := reps2 r1
    rw [rep_key q1] at hs
    exact ⟨a :: ps, (kd.1, v) :: kvs, by rw [e]; rfl, .cons hs pr, v, kvs, rfl, q2, kr⟩
end
section
variable {W : Wd} {G0 H0 G G' H H' : Hp} {E : XK} {X : Cx} {k n : Nat} {env : Env1} {σ : L2.St}
def dictPD : List D → PD → Prop := fun ds Q => ∃ kds : List (Key × D), ds = [.lst (kds.map fun kd => .tup [kyD kd.1, kd.2])] ∧ Q (.dct ((mgD [] kds).map (·.1)) ((mgD [] kds).map (·.2)))
def rDictP (K : PySem.W.Frag) : List V → Hp → VK → Prop := fun xs H Q => ∃ (a : Addr) (ps : List Addr) (kvs : List (Key × V)), xs = [.ref a] ∧ SqL K H a (ps.map V.ref) ∧ Paired (fun p kv => SqT K H p [kV kv.1, kv.2]) ps kvs ∧
    ∀ p, H p = none → Q (.ref p) (upd H p (.dK (mergeK [] kvs)))
theorem cr_dictP (hc : X.calm = true) : CallR X (.type "dict") (rDictP X.K) := call_dictP hc
theorem lift_dictP : LiftN W (rDictP W.K) dictPD :=
  ⟨fun ds Q Q' z ⟨kds, e, q⟩ => ⟨kds, e, z _ q⟩, fun G H vs ds Q g rp ⟨kds, e, q⟩ => by
    subst e
    obtain ⟨v, rfl, r⟩ := reps1 rp
    obtain ⟨a, xs, rfl, hs, r1⟩ := rep_lst r
    obtain ⟨ps, kvs, rfl, pr, kr⟩ := pairs_at r1
    refine ⟨a, ps, kvs, rfl, SqL.at (g.le _ _ hs), L2.Paired.mapP pr (fun p kv h => Same.sqT g.le h), fun p hp => ?_⟩
    obtain ⟨e1, e2⟩ := (kdr.merge (kds := []) (kvs := []) rfl kr).keys
    refine q (.ref p) (upd G p (.dK (mergeK [] kvs))) _ (Gst.alloc g _ hp) ?_
    unfold rep
    exact ⟨p, _, rfl, upd_same, e1, reps_mono (same_new (g.nn hp)) _ _ e2⟩⟩
end
end DL
/-! len(dict(pairs)), the keys tuples of texts -/
namespace DL
open PySem PySem.Spec PyProof.Rows L2
section
variable {X : Cx} {pins : List (Addr × Obj)} {σ : L2.St} {H : Hp} {s : Shared} {a : Expr} {ta : TE} {p p2 q pos : Pos}
/-- the pair at p: a tuple of texts, a thing -/
def PrT (K : PySem.W.Frag) (H : Hp) (p : Addr) (kv : List Str × V) : Prop := ∃ t, SqT K H p [.ref t, kv.2] ∧ SqT K H t (kv.1.map V.str)
theorem items_str : ∀ {ks : List Str} {vs : List Value}, Vals (ks.map V.str) vs → PySem.ItemsAre (strKind X.prog X.w) ks vs
  | [], _, .nil => .nil
  | k :: ks, _, .cons r t => by
    obtain ⟨u, rfl⟩ := r
    exact .cons (strKind_is X.prog X.w k u) (items_str t)
theorem prsT_of (I : Inv X pins σ H s) : ∀ {ps : List Addr} {kvs : List (List Str × V)}, Paired (PrT X.K H) ps kvs →
    ∃ prs : List (List Str × Addr × Value), prs.length = ps.length ∧ prs.map (·.1) = kvs.map (·.1) ∧ ∀ (j : Nat) (q : List Str × Addr × Value), prs[j]? = some q → ∃ b, ps[j]? = some b ∧ s.heap.IsTuple b #[.ref q.2.1, q.2.2] ∧ IsTupleKey (strKind X.prog X.w) s.heap q.1 q.2.1
  | _, _, .nil => ⟨[], rfl, rfl, fun j q e => by simp at e⟩
  | _, _, .cons (a := p) (b := kv) h t => by
    obtain ⟨prs, hl, hk, hp⟩ := prsT_of I t
    obtain ⟨c, h1, h2⟩ := h
    obtain ⟨its, rv, ht, _⟩ := I.tuple h1
    obtain ⟨u, y, ei, ru, ry⟩ := vals2 rv
    subst ei
    cases ru
    obtain ⟨its2, rv2, ht2, _⟩ := I.tuple h2
    refine ⟨(kv.1, c, y) :: prs, by rw [List.length_cons, List.length_cons, hl], by rw [List.map_cons, List.map_cons, hk], fun j q e => ?_⟩
    cases j with
    | zero =>
      have e' : (kv.1, c, y) = q := Option.some.inj e
      subst e'
      obtain ⟨o, ho, hc, n, hd⟩ := ht2
      exact ⟨p, rfl, ht, o, _, n, ho, hc, hd, items_str (by simpa using rv2)⟩
    | succ j => exact hp j q e
theorem merged_keys {K : Type} [DecidableEq K] : ∀ (more xs : List (K × Value)) (k : K), k ∈ (merged xs more).map (·.1) ↔ k ∈ xs.map (·.1) ∨ k ∈ more.map (·.1)
  | [], xs, k => by simp [merged]
  | m :: more, xs, k => by
    show k ∈ (merged (stored xs m.1 m.2) more).map (·.1) ↔ _
    rw [merged_keys more, keys_stored, List.map_cons, List.mem_cons]
    split
    · rename_i hm
      constructor
      · rintro (h | h)
        · exact .inl h
        · exact .inr (.inr h)
      · rintro (h | h | h)
        · exact .inl h
        · rw [h]; exact .inl hm
        · exact .inr h
    · rw [List.mem_append, List.mem_singleton, or_assoc]
def tLenDictT (K : PySem.W.Frag) (ta : TE) : TE := fun σ H Q => ta σ H fun v H1 => ∃ (a : Addr) (ps : List Addr) (kvs : List (List Str × V)), v = .ref a ∧ SqL K H1 a (ps.map V.ref) ∧ Paired (PrT K H1) ps kvs ∧
  ∀ L : List (List Str), L.Nodup → (∀ k, k ∈ L ↔ k ∈ kvs.map (·.1)) → Q (.int (L.length : Nat)) H1
theorem pe_lenDictT (hc : X.calm = true) (hu : X.A.units + 64 < cLine) (hg : Gl X "len") (hm : X.mg "len" = none) (hg2 : Gl X "dict") (hm2 : X.mg "dict" = none) (ha : PE X a ta)
    (na : starEach [a] X.env = (false, eval a X.env) :: starEach [] X.env := by rfl) : PE X (.Call (.Name "len" p) [.Call (.Name "dict" p2) [a] [] q] [] pos) (tLenDictT X.K ta) := by
  refine ⟨fun pins s σ H Q I h => ?_⟩
  refine Call_ (ld_blt I hg hm boot_len ?_)
  refine PyProof.Rows.callWith_builtin1 (PyProof.Rows.args_cons ?_ rfl) rfl rfl
  refine Call_ (ld_blt I hg2 hm2 PyProof.Rows.boot_dict ?_)
  refine PyProof.Rows.callWith_type1 (PyProof.Rows.args_cons (thn (ha.run pins s σ H _ I h) fun v s1 ⟨x, H1, I1, r1, q1⟩ => PyProof.Rows.args_nil ?_) na) na rfl
  obtain ⟨l, ps, kvs, rfl, hs, pr, q1⟩ := q1
  cases r1
  obtain ⟨its, rv, pl, hz⟩ := I1.list hs
  have ei := refs_at rv
  subst ei
  rw [List.length_map] at hz
  obtain ⟨prs, hl, hk, hpr⟩ := prsT_of I1 pr
  obtain ⟨o, n, ho, hcl, hd, hdat⟩ := pl
  have hmap : ∀ (j : Nat) (k v : Value), (prs.map fun q : List Str × Addr × Value => ((.ref q.2.1, q.2.2) : Value × Value))[j]? = some (k, v) → ∃ q, prs[j]? = some q ∧ k = .ref q.2.1 ∧ v = q.2.2 := fun j k v e => by
    rw [List.getElem?_map] at e
    cases e2 : prs[j]? with
    | none => rw [e2] at e; cases e
    | some q => rw [e2] at e; cases e; exact ⟨q, rfl, rfl, rfl⟩
  have P := PairArg.list (prog := X.prog) (w := X.w) l (ps.map Value.ref).toArray (fun j => ps[j]?.getD 0) (prs.map fun q : List Str × Addr × Value => ((.ref q.2.1, q.2.2) : Value × Value))
  have big : (s1.heap.objs.size == sysModules) = false := beq_eq_false_iff_ne.mpr (Nat.ne_of_gt I1.big)
  refine dict_keyed (knd := tupleKind (strKind X.prog X.w)) (kvs := pairsH prs) tupleKind_stays P (I1.ok.hd hc) (by show X.A.units + 1 + 1 < cLine; omega) ⟨⟨o, n, ho, hcl, hd, hdat⟩, by simp [hl], fun j k v e => ?_⟩ ⟨prs, rfl, ⟨by simp, fun i k v e => ?_⟩, fun x hx => ?_⟩ (fun h' hh k b hb => ?_) (by rw [List.length_map, hl]; exact hz) fun h' tk hd' hk' => ?_
  · obtain ⟨q, e1, rfl, rfl⟩ := hmap j k v e
    obtain ⟨b, e2, e3, _⟩ := hpr j q e1
    exact ⟨by simp [e2], .inl (by simp [e2]; exact e3)⟩
  · obtain ⟨q, e1, rfl, rfl⟩ := hmap i k v e
    exact ⟨q.1, q.2.1, e1, rfl⟩
  · obtain ⟨j, e⟩ := List.mem_iff_getElem?.mp hx
    obtain ⟨b, _, _, e4⟩ := hpr j x e
    exact e4
  · exact tupleKind_stays.stays (fun b o _ _ e _ => hh b o (by simp) e) hb
  · obtain ⟨xs, dd, ex⟩ := hd'
    refine PyProof.Rows.args_nil ?_
    have I2 : Inv X pins σ H1 { s1 with heap := h', toks := tk } := I1.kept fun b u e => hk' b u (by simp) e
    have ek : ∀ l : List (List Str × Addr × Value), (pairsH l).map (·.1) = l.map (·.1) := fun l => by unfold pairsH; rw [List.map_map]; rfl
    have e1 : xs.map (·.1) = (merged [] (pairsH prs)).map (·.1) := by rw [← ek, ex]
    have nd : (xs.map (·.1)).Nodup := dd.nodup
    have lx : xs.length ≤ prs.length := by
      have h1 := congrArg List.length ex
      rw [pairsH_length] at h1
      have h2 := merged_length ([] : List (List Str × Value)) (pairsH prs)
      rw [pairsH_length] at h2
      rw [h1]
      simpa using h2
    have hsz : sizeLine = 16777216 := rfl
    have q2 := q1 (xs.map (·.1)) nd (fun k => by rw [e1, merged_keys, ek, hk]; simp)
    rw [List.length_map] at q2
    exact call_len_dictH big dd (by omega) ⟨.int (xs.length : Nat), H1, I2.tok _, ⟨_, rfl⟩, q2⟩
end
section
variable {W : Wd} {G0 H0 G G' H H' : Hp} {E : XK} {X : Cx} {k n : Nat} {env : Env1} {σ : L2.St} {a : Expr} {fa : WE} {p p2 q pos : Pos}
/-- a pair as data: a tuple of texts, a thing -/
def prD (kd : List (List Nat) × D) : D := .tup [.tup (kd.1.map D.str), kd.2]
def wLenDictT (w : WE) : WE := fun env Q Y => w env (fun d => ∃ kds : List (List (List Nat) × D), d = .lst (kds.map prD) ∧ ∀ L : List (List (List Nat)), L.Nodup → (∀ k, k ∈ L ↔ k ∈ kds.map (·.1)) → Q (.int (L.length : Nat))) Y
theorem prsD_at : ∀ {kds : List (List (List Nat) × D)} {xs : List V}, reps W.K G (kds.map prD) xs → GOk W G H → ∃ (ps : List Addr) (kvs : List (List Str × V)), xs = ps.map V.ref ∧ Paired (PrT W.K H) ps kvs ∧ kvs.map (·.1) = kds.map (fun kd => kd.1.map zs)
  | [], xs, h, _ => ⟨[], [], by rw [h.nil_eq]; rfl, .nil, rfl⟩
  | kd :: r, xs, h, g => by
    obtain ⟨x, xr, rfl, h1, h2⟩ := h.uncons
    obtain ⟨ps, kvs, e, pr, ek⟩ := prsD_at h2 g
    obtain ⟨b, ys, rfl, hs, r1⟩ := rep_tup h1
    obtain ⟨u, v, rfl, q1, q2⟩ := reps2 r1
    obtain ⟨t, zs', rfl, ht, r3⟩ := rep_tup q1
    rw [reps_strs r3] at ht
    exact ⟨b :: ps, (kd.1.map zs, v) :: kvs, by rw [e]; rfl, .cons ⟨t, Same.sqT g.le hs, Same.sqT g.le ht⟩ pr, by rw [List.map_cons, List.map_cons, ek]⟩
theorem mapz_inj {a b : List (List Nat)} (h : a.map zs = b.map zs) : a = b := by
  induction a generalizing b with
  | nil => cases b with
    | nil => rfl
    | cons _ _ => cases h
  | cons x a ih => cases b with
    | nil => cases h
    | cons y b =>
      rw [List.map_cons, List.map_cons] at h
      injection h with h1 h2
      rw [zs_inj.mp h1, ih h2]
theorem nodup_map {α β : Type} {f : α → β} : ∀ {l : List α}, (l.map f).Nodup → l.Nodup
  | [], _ => .nil
  | x :: l, h => by
    rw [List.map_cons, List.nodup_cons] at h
    exact List.nodup_cons.mpr ⟨fun z => h.1 (List.mem_map_of_mem z), nodup_map h.2⟩
theorem de_lenDictT (B : DB0 W X) (hc : X.calm = true) (hg : Gl X "len") (hm : X.mg "len" = none) (hg2 : Gl X "dict") (hm2 : X.mg "dict" = none) (ha : DE W G0 H0 E X a fa)
    (na : starEach [a] X.env = (false, eval a X.env) :: starEach [] X.env := by rfl) : DE W G0 H0 E X (.Call (.Name "len" p) [.Call (.Name "dict" p2) [a] [] q] [] pos) (wLenDictT fa) := by
  obtain ⟨m, t, pt, qt⟩ := ha
  refine ⟨fun env Q Q' Y z w => m _ _ _ _ (fun d ⟨kds, e, w⟩ => ⟨kds, e, fun L a b => z _ (w L a b)⟩) w, _, pe_lenDictT hc B.un hg hm hg2 hm2 pt na, fun env σ G H Q r w => ?_⟩
  refine qt env σ G H _ r (m _ _ _ _ (fun d w => ?_) w)
  obtain ⟨kds, rfl, w⟩ := w
  intro v G1 H1 s1 rp
  obtain ⟨b, xs, rfl, hs, r1⟩ := rep_lst rp
  obtain ⟨ps, kvs, rfl, pr, ek⟩ := prsD_at r1 s1.gok
  refine ⟨b, ps, kvs, rfl, SqL.at (s1.gok.le _ _ hs), by rw [B.hK]; exact pr, fun L nd mem => ?_⟩
  have key : ∃ L' : List (List (List Nat)), L = L'.map (fun k => k.map zs) := ⟨L.map (fun k => k.map fun x : Str => x.cps.toList), by
    rw [List.map_map]
    conv => lhs; rw [← List.map_id L]
    refine List.map_congr_left fun k _ => ?_
    show k = (k.map fun x : Str => x.cps.toList).map zs
    rw [List.map_map]
    conv => lhs; rw [← List.map_id k]
    exact List.map_congr_left fun x _ => (zs_of x).symm⟩
  obtain ⟨L', rfl⟩ := key
  have := w L' (nodup_map nd) (fun k => ?_)
  · rw [List.length_map]
    exact this _ G1 H1 s1 rep_int'
  · constructor
    · intro h
      have h2 := (mem (k.map zs)).mp (List.mem_map_of_mem h)
      rw [ek] at h2
      obtain ⟨kd, hkd, e⟩ := List.mem_map.mp h2
      rw [← mapz_inj e]
      exact List.mem_map_of_mem hkd
    · intro h
      obtain ⟨kd, hkd, rfl⟩ := List.mem_map.mp h
      have h2 := (mem (kd.1.map zs)).mpr (by rw [ek]; exact List.mem_map_of_mem hkd)
      obtain ⟨k', hk', e⟩ := List.mem_map.mp h2
      rw [← mapz_inj e]
      exact hk'
end
end DL
/-! sum of a tuple, tuple(a tuple) -/
namespace DL
open PySem PySem.Spec PyProof.Rows L2
section
variable {W : Wd} {X : Cx}
def rSumT (K : PySem.W.Frag) : List V → Hp → VK → Prop := fun vs H Q => ∃ (a : Addr) (ns : List Int), vs = [V.ref a] ∧ SqT K H a (ns.map V.int) ∧ Q (.int ns.sum) H
theorem items_of : ∀ {ns : List Int} {vs : List Value}, Vals (ns.map V.int) vs → ∃ xs : List (Int × Tok), vs = xs.map (fun x => Value.int x.1 x.2) ∧ xs.map (·.1) = ns
  | [], _, .nil => ⟨[], rfl, rfl⟩
  | n :: ns, _, .cons r t => by
    obtain ⟨xs, e, h⟩ := items_of t
    obtain ⟨k, rfl⟩ := r
    exact ⟨(n, k) :: xs, by rw [e]; rfl, by rw [List.map_cons, h]⟩
theorem cr_sumT (hc : X.calm = true) : CallR X (.builtin "sum") (rSumT X.K) := by
  intro pins s σ H vs us Q I r h
  obtain ⟨a, ns, rfl, hs, q⟩ := h
  obtain ⟨its, rv, ht, _⟩ := I.tuple hs
  rw [Vals.ref1 r]
  obtain ⟨xs, ex, en⟩ := items_of rv
  have e : its.toArray = PySem.intItems xs.toArray := by
    rw [ex]
    simp [PySem.intItems]
  rw [e] at ht
  refine PySem.W.ktm_sumG (I.ok.hd hc) ht fun h' tk t' hk => ⟨.int _, H, I.kept hk, ⟨_, rfl⟩, ?_⟩
  have : PySem.preSum (PySem.numAt xs.toArray) xs.toArray.size = ns.sum := by
    rw [PySem.preSum_eq, List.take_of_length_le (by simp), show xs.toArray.toList = xs from rfl, en]
  rw [this]
  exact q
def sumTD : List D → PD → Prop := fun ds Q => ∃ ns : List Int, ds = [.tup (ns.map D.int)] ∧ Q (.int ns.sum)
theorem lift_sumT : LiftN W (rSumT W.K) sumTD :=
  ⟨fun ds Q Q' z ⟨i, e, q⟩ => ⟨i, e, z _ q⟩, fun G H vs ds Q g rp ⟨ns, e, q⟩ => by
    subst e
    obtain ⟨v, rfl, r⟩ := reps1 rp
    obtain ⟨p, xs, rfl, hs, r1⟩ := rep_tup r
    rw [reps_ints r1] at hs
    exact ⟨p, ns, rfl, Same.sqT g.le hs, q.here g rep_int'⟩⟩
def tupTD : List D → PD → Prop := fun ds Q => ∃ xs : List D, ds = [.tup xs] ∧ Q (.tup xs)
theorem lift_tupT : LiftN W (fun xs H Q => ∃ a ys, xs = [.ref a] ∧ SqT W.K H a ys ∧ Q (.ref a) H) tupTD :=
  ⟨fun ds Q Q' z ⟨i, e, q⟩ => ⟨i, e, z _ q⟩, fun G H vs ds Q g rp ⟨ds', e, q⟩ => by
    subst e
    obtain ⟨v, rfl, r⟩ := reps1 rp
    obtain ⟨p, xs, rfl, hs, r1⟩ := rep_tup r
    exact ⟨p, xs, rfl, Same.sqT g.le hs, q.here g r⟩⟩
end
end DL
/-! three names at once, all data -/
namespace DL
open PySem PySem.Spec PyProof.Rows L2
section
variable {W : Wd} {G0 H0 G G' H H' : Hp} {E : XK} {X : Cx} {k n : Nat} {env : Env1} {σ : L2.St}
def wPar3D (i j l : Nat) (g : WM) : WS := fun env D Y => g env (fun rs => ∃ a b c, rs = [.dt a, .dt b, .dt c] ∧ D.nx (((env.set i (.dt a)).set j (.dt b)).set l (.dt c))) Y
theorem ds_par3D {i j l : Nat} {st : Stmt} {es : List Expr} {g : WM} (hp : ∀ ta, PA X es ta → PS X st (tPar3 i j l ta)) (ha : DM W G0 H0 E X es g) : DS W G0 H0 E X st (wPar3D i j l g) := by
  obtain ⟨m, t, pt, q⟩ := ha
  refine ⟨fun env D D' Y z w => m _ _ _ _ (fun rs ⟨a, b, c, e, w⟩ => ⟨a, b, c, e, z.nx _ w⟩) w, _, hp _ pt, fun env σ G H Dv r w => ?_⟩
  refine q env σ G H [] _ r (fun p hp => by cases hp) (m _ _ _ _ (fun rs w => ?_) w)
  obtain ⟨a, b, c, rfl, w⟩ := w
  intro vs G1 H1 s1 rm
  have hb : ∀ p, fr W H p → fr W H0 p := fun p h => r.st.fr h
  obtain ⟨v1, r1', e1, rp1, v2, r2', e2, rp2, v3, r3', e3, rp3, e4⟩ := rm
  have e4' : r3' = [] := e4
  subst e1 e2 e3 e4'
  refine ⟨v1, v2, v3, rfl, ?_⟩
  have r1 := r.step s1
  have ha2 : repR W H G1 H1 (.dt a) v1 := rp1
  have hb2 : repR W H G1 H1 (.dt b) v2 := rp2
  have hc2 : repR W H G1 H1 (.dt c) v3 := rp3
  have ra := r1.set_rs (i := i) hb ha2 fun l es p nl ev ⟨ds, ea⟩ el z => by cases ea
  have rb := ra.set_rs (i := j) hb hb2 fun l es p nl ev ⟨ds, ea⟩ el z => by cases ea
  exact w _ G1 _ s1.le (rb.set_rs (i := l) hb hc2 fun l' es p' nl ev ⟨ds, eb⟩ el z => by cases eb)
end
end DL
/-! tables: a list of rows that are changed in place; the heap itself is looked at -/
namespace DL
open PySem PySem.Spec PyProof.Rows L2
/-- a walk over a text's signs -/
theorem for_chars {x : Str} {g : TG} {tb : TS} {D : Ends} {σ : L2.St} {H : Hp} (Pv : Nat → L2.St → Hp → Prop) (h0 : Pv 0 σ H)
    (hs : ∀ i c σ H, x.cps[i]? = some c → Pv i σ H → g (.str ⟨#[c]⟩) σ H fun σ2 H2 => tb { D with nx := Pv (i + 1), ct := Pv (i + 1), bk := D.nx } σ2 H2) (hd : ∀ σ H, Pv x.cps.size σ H → D.nx σ H) :
    ∃ W : Nat → Nat → L2.St → Hp → Prop, (∃ m, W 0 m σ H) ∧ ∀ i m σ H, W i m σ H →
      ((Its x).stop i H ∧ D.nx σ H) ∨ ((Its x).go i H ∧ ∃ N : L2.St → Hp → Prop, (∀ σ' H', N σ' H' → ∃ m', m' < m ∧ W (i + 1) m' σ' H') ∧ ∀ v H', (Its x).yld i H v H' → g v σ H' fun σ2 H2 => tb { D with nx := N, ct := N, bk := D.nx } σ2 H2) := by
  refine ⟨fun i m σ H => m = x.cps.size - i ∧ i ≤ x.cps.size ∧ Pv i σ H, ⟨x.cps.size, rfl, Nat.zero_le _, h0⟩, ?_⟩
  rintro i m σ H ⟨rfl, hi, p⟩
  by_cases hlt : i < x.cps.size
  · refine .inr ⟨hlt, Pv (i + 1), fun σ' H' p' => ⟨x.cps.size - (i + 1), by omega, rfl, hlt, p'⟩, fun v H' y => ?_⟩
    obtain ⟨rfl, c, ec, rfl⟩ := y
    exact hs i c σ _ ec p
  · have e : i = x.cps.size := by omega
    subst e
    exact .inl ⟨Nat.le_refl _, hd σ H p⟩
/-- n numbers by their places -/
def rw1 (m : Nat) (g : Nat → Int) : List V := (List.range m).map fun b => V.int (g b)
theorem rw1_len (m : Nat) (g : Nat → Int) : (rw1 m g).length = m := by unfold rw1; rw [List.length_map, List.length_range]
theorem rw1_at {m b : Nat} (g : Nat → Int) (h : b < m) : atI (rw1 m g) ((b : Nat) : Int) = some (.int (g b)) := by
  refine atI_nat ?_
  unfold rw1
  rw [List.getElem?_map, List.getElem?_range h]
  rfl
theorem rw1_ix {m b : Nat} (g : Nat → Int) (h : b < m) : ixN (rw1 m g).length ((b : Nat) : Int) = some b := by
  rw [rw1_len]
  unfold ixN
  rw [if_pos (by omega), if_pos (by omega)]
  simp
theorem rw1_set {m b : Nat} (g : Nat → Int) (v : Int) : (rw1 m g).set b (.int v) = rw1 m fun c => if c = b then v else g c := by
  unfold rw1
  refine List.ext_getElem? fun i => ?_
  rw [List.getElem?_set, List.length_map, List.length_range]
  by_cases hi : i < m
  · rw [List.getElem?_map, List.getElem?_map, List.getElem?_range hi]
    by_cases e : b = i
    · subst e; rw [if_pos rfl, if_pos hi]; simp
    · rw [if_neg e]
      show _ = some (V.int (if i = b then v else g i))
      rw [if_neg (fun z : i = b => e z.symm)]
      rfl
  · rw [List.getElem?_eq_none (by simp; omega), List.getElem?_eq_none (by simp; omega)]
    simp
    omega
/-- the rows stand: p their list, ps the rows -/
structure Tb (H0 H : Hp) (p : Addr) (ps : List Addr) (n m : Nat) (f : Nat → Nat → Int) : Prop where
  top : H p = some (.lst (ps.map V.ref))
  p0 : H0 p = none
  len : ps.length = n
  row : ∀ i q, ps[i]? = some q → H q = some (.lst (rw1 m (f i))) ∧ H0 q = none
  nd : (p :: ps).Nodup
section
variable {H0 H H' : Hp} {p q : Addr} {ps : List Addr} {n m i : Nat} {f : Nat → Nat → Int}
theorem Tb.ext (t : Tb H0 H p ps n m f) (s : Same H H') : Tb H0 H' p ps n m f :=
  ⟨s _ _ t.top, t.p0, t.len, fun i q e => ⟨s _ _ (t.row i q e).1, (t.row i q e).2⟩, t.nd⟩
theorem Tb.away (t : Tb H0 H p ps n m f) {r : Addr} {o : HO} (h : r ∉ p :: ps) : Tb H0 (upd H r o) p ps n m f :=
  ⟨by rw [upd_ne (fun z => h (by rw [← z]; exact List.mem_cons_self))]; exact t.top, t.p0, t.len, fun i q e => by
    obtain ⟨a, b⟩ := t.row i q e
    refine ⟨?_, b⟩
    rw [upd_ne (fun z => h (by rw [← z]; exact List.mem_cons_of_mem _ (List.mem_of_getElem? e)))]
    exact a, t.nd⟩
theorem Tb.pq (t : Tb H0 H p ps n m f) (e : ps[i]? = some q) : p ≠ q := fun z => (List.nodup_cons.mp t.nd).1 (by rw [z]; exact List.mem_of_getElem? e)
theorem Tb.set (t : Tb H0 H p ps n m f) (e : ps[i]? = some q) (g : Nat → Int) : Tb H0 (upd H q (.lst (rw1 m g))) p ps n m fun a => if a = i then g else f a := by
  have nd := (List.nodup_cons.mp t.nd).2
  refine ⟨by rw [upd_ne (t.pq e)]; exact t.top, t.p0, t.len, fun j r ej => ?_, t.nd⟩
  by_cases hj : j = i
  · subst hj
    rw [e] at ej
    cases ej
    rw [upd_same, if_pos rfl]
    exact ⟨rfl, (t.row j q e).2⟩
  · rw [if_neg hj, upd_ne (fun z => ?_)]
    · exact t.row j r ej
    · subst z
      have hi := (List.getElem?_eq_some_iff.mp e)
      have hj' := (List.getElem?_eq_some_iff.mp ej)
      obtain ⟨h1, e1⟩ := hi
      obtain ⟨h2, e2⟩ := hj'
      have pw := List.pairwise_iff_getElem.mp nd
      rcases Nat.lt_trichotomy i j with z | z | z
      · exact pw i j h1 h2 z (e1.trans e2.symm)
      · exact hj z.symm
      · exact pw j i h2 h1 z (e2.trans e1.symm)
theorem Tb.congr {f' : Nat → Nat → Int} (t : Tb H0 H p ps n m f) (h : ∀ i b, i < n → b < m → f i b = f' i b) : Tb H0 H p ps n m f' :=
  ⟨t.top, t.p0, t.len, fun i q e => by
    have hi : i < n := by rw [← t.len]; exact (List.getElem?_eq_some_iff.mp e).1
    have e1 : rw1 m (f' i) = rw1 m (f i) := List.map_congr_left fun b hb => by rw [h i b hi (List.mem_range.mp hb)]
    rw [e1]
    exact t.row i q e, t.nd⟩
/-- a list that is new is laid aside -/
theorem same_upd {H0 H : Hp} {q : Addr} {o : HO} (s : Same H0 H) (h : H0 q = none) : Same H0 (upd H q o) := fun b x e => by
  rw [upd_ne (fun z => by rw [z, h] at e; cases e)]
  exact s b x e
theorem none_of {H0 H : Hp} {q : Addr} (s : Same H0 H) (h : H q = none) : H0 q = none := by
  cases e : H0 q with
  | none => rfl
  | some o => rw [s _ _ e] at h; cases h
/-- rows while they are made -/
structure Tn (H0 H : Hp) (p : Addr) (ps : List Addr) (m : Nat) (f : Nat → Nat → Int) : Prop where
  sm : Same H0 H
  top : H p = some (.lst (ps.map V.ref))
  p0 : H0 p = none
  row : ∀ i q, ps[i]? = some q → H q = some (.lst (rw1 m (f i))) ∧ H0 q = none
  nd : (p :: ps).Nodup
theorem Tn.new {H0 H : Hp} {p : Addr} {m : Nat} {f : Nat → Nat → Int} (h : H p = none) (s : Same H0 H) : Tn H0 (upd H p (.lst [])) p [] m f :=
  ⟨same_upd s (none_of s h), upd_same, none_of s h, fun i q e => by simp at e, by simp⟩
/-- one more row: the heap has grown, the row stands -/
theorem Tn.push {H0 H H' : Hp} {p q : Addr} {ps : List Addr} {m : Nat} {f : Nat → Nat → Int} (t : Tn H0 H p ps m f) (s : Same H H') (hq : H q = none) (hr : H' q = some (.lst (rw1 m (f ps.length)))) :
    Tn H0 (upd H' p (.lst (ps.map V.ref ++ [.ref q]))) p (ps ++ [q]) m f := by
  have q0 := none_of t.sm hq
  have nq : q ∉ p :: ps := fun z => by
    rcases List.mem_cons.mp z with e | e
    · rw [e, t.top] at hq; cases hq
    · obtain ⟨i, hi, e⟩ := List.getElem_of_mem e
      have := (t.row i q (by rw [List.getElem?_eq_getElem hi, e])).1
      rw [hq] at this; cases this
  obtain ⟨n1, n2⟩ := List.nodup_cons.mp t.nd
  have hpq : p ≠ q := fun z => nq (by rw [z]; exact List.mem_cons_self)
  refine ⟨same_upd (t.sm.trans s) t.p0, by rw [upd_same]; simp, t.p0, fun i r e => ?_, ?_⟩
  · by_cases hi : i < ps.length
    · rw [List.getElem?_append_left hi] at e
      obtain ⟨a, b⟩ := t.row i r e
      refine ⟨?_, b⟩
      rw [upd_ne (fun z => n1 (by rw [← z]; exact List.mem_of_getElem? e))]
      exact s _ _ a
    · have e2 : i = ps.length := by
        have := (List.getElem?_eq_some_iff.mp e).1
        rw [List.length_append, List.length_singleton] at this
        omega
      subst e2
      rw [List.getElem?_append_right (Nat.le_refl _), Nat.sub_self] at e
      cases e
      rw [upd_ne (Ne.symm hpq)]
      exact ⟨hr, q0⟩
  · rw [List.nodup_cons, List.mem_append, List.nodup_append]
    refine ⟨fun z => z.elim n1 (fun z => hpq (List.mem_singleton.mp z)), n2, by simp, fun a ha b hb => ?_⟩
    rw [List.mem_singleton.mp hb]
    intro z
    exact nq (by rw [← z]; exact List.mem_cons_of_mem _ ha)
theorem Tn.tb {H0 H : Hp} {p : Addr} {ps : List Addr} {n m : Nat} {f : Nat → Nat → Int} (t : Tn H0 H p ps m f) (h : ps.length = n) : Tb H0 H p ps n m f := ⟨t.top, t.p0, h, t.row, t.nd⟩
end
section
variable {W : Wd} {G0 H0 G G' H H' : Hp} {E : XK} {X : Cx} {k n : Nat} {env : Env1} {σ : L2.St}
/-- new tuples become data -/
def shG (A : List Addr) (G H' : Hp) : Hp := fun a => if a ∈ A then H' a else G a
theorem shG_in {A : List Addr} {G H' : Hp} {a : Addr} (h : a ∈ A) : shG A G H' a = H' a := by unfold shG; rw [if_pos h]
theorem shG_out {A : List Addr} {G H' : Hp} {a : Addr} (h : a ∉ A) : shG A G H' a = G a := by unfold shG; rw [if_neg h]
theorem Gst.shows (g : GOk W G H) (sm : Same H H') (A : List Addr) (hA : ∀ a ∈ A, H a = none ∧ ∃ xs, H' a = some (.tup xs)) : Gst W G H (shG A G H') H' := by
  have hn : ∀ a ∈ A, G a = none := fun a ha => none_of g.le (hA a ha).1
  refine ⟨⟨fun a o e => ?_, g.w.ext sm, fun a m => ?_, fun a ps e => ?_⟩, fun a o e => ?_, fun a o e => ?_, fun a o e _ _ => sm a o e⟩
  · by_cases h : a ∈ A
    · rw [shG_in h] at e; exact e
    · rw [shG_out h] at e; exact sm _ _ (g.le _ _ e)
  · rw [shG_out (fun z => by
      obtain ⟨o, e⟩ := g.w.some m
      rw [(hA a z).1] at e; cases e)]
    exact g.nm a m
  · by_cases h : a ∈ A
    · rw [shG_in h] at e
      obtain ⟨xs, hx⟩ := (hA a h).2
      rw [hx] at e; cases e
    · rw [shG_out h] at e; exact g.tb a ps e
  · rw [shG_out (fun z => by rw [hn a z] at e; cases e)]
    exact e
  · by_cases h : a ∈ A
    · exact .inr (g.w.fr (hA a h).1)
    · rw [shG_out h] at e; exact .inl e
/-- the table as data -/
def tabD (n m : Nat) (f : Nat → Nat → Int) : D := .tup ((List.range n).map fun i => .tup ((List.range m).map fun b => .int (f i b)))
/-- the rows' tuples while they are made -/
structure Tt (H0 H : Hp) (d : Addr) (ls : List Addr) (m : Nat) (f : Nat → Nat → Int) : Prop where
  top : H d = some (.lst (ls.map V.ref))
  d0 : H0 d = none
  row : ∀ i q, ls[i]? = some q → H q = some (.tup (rw1 m (f i))) ∧ H0 q = none
def tRows (K : PySem.W.Frag) (iRows iRow : Nat) : TE := tCB (rTupA K) (tCons (tLc (iList K (tVar iRows)) (gName iRow) tYes (tCB (rTupA K) (tCons (tVar iRow) tNil)) [iRow]) tNil)
/-- return tuple([tuple(row) for row in rows]) -/
theorem rows_ok {iRows iRow : Nat} {p : Addr} {ps : List Addr} {m : Nat} {f : Nat → Nat → Int} {Dv : Ends} (r0 : RelS W G0 H0 env σ G H) (hK : X.K = W.K) {σ' : L2.St} (sm : Same H H') (t : Tb H H' p ps n m f) (hs : σ'[iRows]? = some (some (.ref p))) (hne : iRow ≠ iRows) (hi : iRow < σ'.length) (hn : n < 1000) (hm : m < 1000)
    (q : (dnOf W G0 H0 G Dv).rt (.dt (tabD n m f))) : tRet (tRows X.K iRows iRow) Dv σ' H' := by
  have z1 : (1000 : Nat) < sizeLine := by decide
  refine ⟨.ref p, hs, p, rfl, ⟨_, SqL.at t.top⟩, fun d hd => ?_⟩
  have d0 := none_of sm hd
  have dn : d ∉ p :: ps := fun z => by
    rcases List.mem_cons.mp z with e | e
    · rw [e, t.top] at hd; cases hd
    · obtain ⟨i, hi, e⟩ := List.getElem_of_mem e
      have := (t.row i d (by rw [List.getElem?_eq_getElem hi, e])).1
      rw [hd] at this; cases this
  refine lc_list (xs := ps.map V.ref) (fun i Hx => Same H Hx ∧ Tb H Hx p ps n m f ∧ ∃ ls : List Addr, ls.length = i ∧ Tt H Hx d ls m f) ⟨same_upd sm d0, t.away dn, [], rfl, upd_same, d0, fun i q e => by simp at e⟩
    (fun i Hx _ ⟨_, t', _⟩ => SqL.at t'.top) (fun i x Hx ex ⟨s1, t1, ls, hl, u⟩ => ?_) (fun Hx ⟨s1, t1, ls, hl, u⟩ => ?_)
  · rw [List.getElem?_map] at ex
    obtain ⟨qa, eq, rfl⟩ := Option.map_eq_some_iff.mp ex
    obtain ⟨hq, q0⟩ := t1.row i qa eq
    have hin : i < n := by rw [← t1.len]; exact (List.getElem?_eq_some_iff.mp eq).1
    refine ⟨(wipe_set List.mem_cons_self).trans (wipe_in fun _ h => h), ?_⟩
    unfold tYes
    dsimp only
    rw [if_pos rfl]
    refine ⟨.ref qa, ?_, qa, _, rfl, .inl ⟨SqL.at hq, fun l hl2 => ?_⟩⟩
    · rw [List.getElem?_set_self]
      rw [wipe_length]
      exact hi
    have l0 := none_of s1 hl2
    have ld : l ≠ d := fun z => by rw [z, u.top] at hl2; cases hl2
    refine ⟨ls.map V.ref, ?_, by rw [List.length_map]; omega, same_upd (same_upd s1 l0) d0, (t1.ext (same_new hl2)).away dn, ls ++ [l], by rw [List.length_append, hl]; rfl, by rw [upd_same]; simp, d0, fun j r ej => ?_⟩
    · rw [upd_ne (Ne.symm ld)]; exact u.top
    · by_cases hj : j < ls.length
      · rw [List.getElem?_append_left hj] at ej
        obtain ⟨a, b⟩ := u.row j r ej
        refine ⟨?_, b⟩
        rw [upd_ne (fun z => by rw [z, u.top] at a; cases a), upd_ne (fun z => by rw [z, hl2] at a; cases a)]
        exact a
      · have e2 : j = ls.length := by
          have := (List.getElem?_eq_some_iff.mp ej).1
          rw [List.length_append, List.length_singleton] at this
          omega
        subst e2
        rw [List.getElem?_append_right (Nat.le_refl _), Nat.sub_self] at ej
        cases ej
        rw [upd_ne ld, upd_same, hl]
        exact ⟨rfl, l0⟩
  · refine ⟨d, _, rfl, .inl ⟨SqL.at u.top, fun l hl2 => ?_⟩⟩
    have l0 := none_of s1 hl2
    have hls : ls.length = n := by rw [hl, List.length_map, t1.len]
    have lls : ∀ a ∈ ls, a ≠ l := fun a ha z => by
      obtain ⟨i, hi, e⟩ := List.getElem_of_mem ha
      have := (u.row i a (by rw [List.getElem?_eq_getElem hi, e])).1
      rw [z, hl2] at this; cases this
    have up : ∀ i r, ls[i]? = some r → (upd Hx l (.tup (ls.map V.ref))) r = some (.tup (rw1 m (f i))) ∧ H r = none := fun i r e => by
      rw [upd_ne (lls r (List.mem_of_getElem? e))]
      exact u.row i r e
    have st : Gst W G H (shG (l :: ls) G (upd Hx l (.tup (ls.map V.ref)))) (upd Hx l (.tup (ls.map V.ref))) := Gst.shows r0.gok (same_upd s1 l0) _ fun a ha => by
      rcases List.mem_cons.mp ha with e | e
      · rw [e, upd_same]; exact ⟨l0, _, rfl⟩
      · obtain ⟨i, hi, e⟩ := List.getElem_of_mem e
        obtain ⟨x, y⟩ := up i a (by rw [List.getElem?_eq_getElem hi, e])
        exact ⟨y, _, x⟩
    refine q _ _ _ st.le (r0.st.trans st) ?_
    unfold tabD
    show rep _ _ _ _
    unfold rep
    refine ⟨l, _, rfl, .inl (.inl ((shG_in List.mem_cons_self).trans upd_same)), ?_⟩
    have key : ∀ (j : Nat) (rs : List Addr), (∀ i r, rs[i]? = some r → ls[j + i]? = some r) → reps W.K (shG (l :: ls) G (upd Hx l (.tup (ls.map V.ref)))) ((List.range' j rs.length).map fun i => .tup ((List.range m).map fun b => .int (f i b))) (rs.map V.ref) := fun j rs => by
      induction rs generalizing j with
      | nil => intro _; exact reps.nil
      | cons a rs ih =>
        intro hr
        rw [List.length_cons, List.range'_succ, List.map_cons, List.map_cons]
        refine .cons ?_ (ih (j + 1) fun i r e => by
          have := hr (i + 1) r (by simpa using e)
          rw [show j + 1 + i = j + (i + 1) by omega]
          exact this)
        have e := hr 0 a rfl
        unfold rep
        refine ⟨a, _, rfl, .inl (.inl ((shG_in (List.mem_cons_of_mem _ (List.mem_of_getElem? e))).trans (up _ _ e).1)), ?_⟩
        exact reps_map (fun b => rep_int') _
    have := key 0 ls fun i r e => by rw [Nat.zero_add]; exact e
    rw [hls, ← List.range_eq_range'] at this
    exact this
end
end DL
/-! the two tables of pairs and of chains, in place -/
namespace DL
open PySem PySem.Spec PyProof.Rows L2
def tZer (iM : Nat) : TE := tOp rRep (tLst (tCons (tC (.int 0)) tNil)) (tVar iM)
def tIx (K : PySem.W.Frag) (Ls : Str) : TE := tBM K "str" rSIdx (tC (.str Ls)) (tCons (tVar 2) tNil)
def tInc (K : PySem.W.Frag) (to ti te : TE) : TS := tAugS to ti te (rIxL K) (ipI fun i j => i + j) rSetL
def tTabP (K : PySem.W.Frag) (Ls : Str) : TS :=
  tSeq (tAsg (tLc (iRng1 (tCons (tVar 1) tNil)) (gName 3) tYes (tZer 1) [3]) (gName 4))
  (tSeq (tAsg (tZer 1) (gName 5))
  (tSeq (tFor (iStr (tVar 0)) (gName 2) (tSeq (tAsg (tIx K Ls) (gName 3)) (tSeq (tFor (iRng1 (tCons (tVar 1) tNil)) (gName 6) (tInc K (tOp (rIxL K) (tVar 4) (tVar 6)) (tVar 3) (tOp (rIxL K) (tVar 5) (tVar 6)))) (tInc K (tVar 5) (tVar 3) (tC (.int 1))))))
  (tRet (tRows K 4 7))))
section
variable {W : Wd} {G0 H0 G G' H H' : Hp} {E : XK} {X : Cx} {k n : Nat} {env : Env1} {σ : L2.St}
theorem flat_repV (n : Nat) (x : V) : (List.replicate n [x]).flatten = List.replicate n x := by
  induction n with
  | zero => rfl
  | succ n ih => rw [List.replicate_succ, List.flatten_cons, ih, List.replicate_succ]; rfl
/-- n times 0 -/
theorem zer_ok {iM m : Nat} {σ : L2.St} {H : Hp} {Q : VK} (hs : σ[iM]? = some (some (.int (m : Int)))) (hm : m < 1000) (q : ∀ p H', Same H H' → H p = none → H' p = some (.lst (rw1 m fun _ => 0)) → Q (.ref p) H') : tZer iM σ H Q := by
  refine ⟨by decide, fun l hl => ⟨.int m, hs, l, _, _, rfl, rfl, upd_same, by omega, by omega, ?_, fun p hp => ?_⟩⟩
  · have z1 : (1000 : Nat) < sizeLine := by decide
    show 1 * _ ≤ sizeLine
    rw [Int.toNat_natCast]
    omega
  · have hpl : p ≠ l := fun z => by rw [z, upd_same] at hp; cases hp
    rw [upd_ne hpl] at hp
    refine q p _ (same_upd (same_new hl) hp) hp ?_
    rw [upd_same, Int.toNat_natCast]
    congr 2
    unfold rw1
    rw [List.map_const', List.length_range]
    exact flat_repV m (.int 0)
/-- where the letters stand -/
def IxOk (Ls : Str) (m : Nat) (c : Nat) (a : Nat) : Prop := Txt.index0 Ls (zs [c]) = some a ∧ a < m
/-- the pairs' table, letter by letter -/
def stepP (ix : Nat → Nat) (s : (Nat → Nat → Int) × (Nat → Int)) (c : Nat) : (Nat → Nat → Int) × (Nat → Int) :=
  (fun i b => if b = ix c then s.1 i b + s.2 i else s.1 i b, fun i => if i = ix c then s.2 i + 1 else s.2 i)
def foldP (ix : Nat → Nat) (w : List Nat) : (Nat → Nat → Int) × (Nat → Int) := w.foldl (stepP ix) (fun _ _ => 0, fun _ => 0)
theorem foldP_take {ix : Nat → Nat} {w : List Nat} {i c : Nat} (h : w[i]? = some c) : foldP ix (w.take (i + 1)) = stepP ix (foldP ix (w.take i)) c := by
  unfold foldP
  rw [List.take_succ, h, List.foldl_append]
  rfl
def wTabP (ix : Nat → Nat) (Ls : Str) : WS := fun env D _ => ∃ (w : List Nat) (m : Nat) (s2 s3 s4 s5 s6 s7 : Sl), env = [.dt (.str w), .dt (.int (m : Int)), s2, s3, s4, s5, s6, s7] ∧ (∀ c ∈ w, IxOk Ls m c (ix c)) ∧ m < 1000 ∧ D.rt (.dt (tabD m m (foldP ix w).1))
/-- rows, counts at a turn -/
structure PI1 (H0 H : Hp) (p pc : Addr) (ps : List Addr) (m : Nat) (f : Nat → Nat → Int) (g : Nat → Int) : Prop where
  sm : Same H0 H
  tb : Tb H0 H p ps m m f
  ct : H pc = some (.lst (rw1 m g))
  c0 : H0 pc = none
  cn : pc ∉ p :: ps
theorem PI1.congr {p pc : Addr} {ps : List Addr} {m : Nat} {f f' : Nat → Nat → Int} {g g' : Nat → Int} (t : PI1 H0 H p pc ps m f g) (h : ∀ i b, i < m → b < m → f i b = f' i b) (h2 : ∀ i, i < m → g i = g' i) : PI1 H0 H p pc ps m f' g' :=
  ⟨t.sm, t.tb.congr h, by
    have e1 : rw1 m g' = rw1 m g := List.map_congr_left fun b hb => by rw [h2 b (List.mem_range.mp hb)]
    rw [e1]
    exact t.ct, t.c0, t.cn⟩
theorem tabP_ok {Ls : Str} {ix : Nat → Nat} {w : List Nat} {m : Nat} {Dv : Ends} {s2 s3 s4 s5 s6 s7 : Option V} (r0 : RelS W G0 H0 env σ G H) (hK : X.K = W.K) (hix : ∀ c ∈ w, IxOk Ls m c (ix c)) (hm : m < 1000)
    (q : (dnOf W G0 H0 G Dv).rt (.dt (tabD m m (foldP ix w).1))) : tTabP X.K Ls Dv [some (.str (zs w)), some (.int (m : Int)), s2, s3, s4, s5, s6, s7] H := by
  have z1 : (1000 : Nat) < sizeLine := by decide
  -- the rows
  refine ⟨.int m, rfl, (m : Int), rfl, by omega, by omega, fun D hD => ?_⟩
  rw [Int.toNat_natCast]
  refine lc_range (fun i Hx => ∃ ps : List Addr, ps.length = i ∧ Tn H Hx D ps m fun _ _ => 0) ⟨[], rfl, Tn.new hD (Same.refl _)⟩ (fun i Hx hi ⟨ps, hl, t⟩ => ?_) (fun Hx ⟨ps, hl, t⟩ => ?_)
  · refine ⟨(wipe_set List.mem_cons_self).trans (wipe_in fun _ h => h), ?_⟩
    unfold tYes
    dsimp only
    rw [if_pos rfl]
    refine zer_ok rfl hm fun p H' s hp hr => ⟨ps.map V.ref, s _ _ t.top, by rw [List.length_map]; omega, ps ++ [p], by rw [List.length_append, hl]; rfl, t.push s hp hr⟩
  -- the counts
  have sm1 := t.sm
  refine zer_ok (iM := 1) rfl hm fun pc Hy s hp hr => ?_
  have st : PI1 H Hy D pc ps m (foldP ix (w.take 0)).1 (foldP ix (w.take 0)).2 := ⟨sm1.trans s, (t.tb hl).ext s, hr, none_of sm1 hp, fun z => by
    rcases List.mem_cons.mp z with e | e
    · rw [e, t.top] at hp; cases hp
    · obtain ⟨i, hi, e⟩ := List.getElem_of_mem e
      have := (t.row i pc (by rw [List.getElem?_eq_getElem hi, e])).1
      rw [hp] at this; cases this⟩
  -- the letters
  refine ⟨.str (zs w), rfl, zs w, rfl, ?_⟩
  refine for_chars (fun i σ Hx => ∃ s2 s3 s6 s7, σ = [some (.str (zs w)), some (.int (m : Int)), s2, s3, some (.ref D), some (.ref pc), s6, s7] ∧ PI1 H Hx D pc ps m (foldP ix (w.take i)).1 (foldP ix (w.take i)).2) ⟨_, _, _, _, rfl, st⟩
    (fun i c σ Hx ec ⟨s2, s3, s6, s7, es, u⟩ => ?_) (fun σ Hx ⟨s2, s3, s6, s7, es, u⟩ => ?_)
  · subst es
    have ec' : w[i]? = some c := by simpa [zs] using ec
    obtain ⟨hc1, hc2⟩ := hix c (List.mem_of_getElem? ec')
    rw [foldP_take ec']
    generalize hf : (foldP ix (w.take i)).1 = f at u ⊢
    generalize hg : (foldP ix (w.take i)).2 = g at u ⊢
    refine ⟨rfl, .str (zs [c]), rfl, _, _, ix c, rfl, rfl, hc1, ?_⟩
    refine ⟨.int m, rfl, (m : Int), rfl, by omega, by omega, ?_⟩
    rw [Int.toNat_natCast]
    refine for_range (fun j σ Hx => ∃ s6, σ = [some (.str (zs w)), some (.int (m : Int)), some (.str (zs [c])), some (.int (ix c : Int)), some (.ref D), some (.ref pc), s6, s7] ∧ PI1 H Hx D pc ps m (fun a b => if a < j ∧ b = ix c then f a b + g a else f a b) g) ⟨_, rfl, u.congr (fun a b _ _ => by rw [if_neg (by omega)]) (fun _ _ => rfl)⟩
      (fun j σ Hx hj ⟨s6, es, u⟩ => ?_) (fun σ Hx ⟨s6, es, u⟩ => ?_)
    · subst es
      have hj' : j < ps.length := by rw [u.tb.len]; exact hj
      have ej : ps[j]? = some ps[j] := List.getElem?_eq_getElem hj'
      obtain ⟨hr, hr0⟩ := u.tb.row j _ ej
      rw [Int.zero_add]
      refine ⟨.ref D, rfl, .int (j : Int), rfl, D, ps.map V.ref, (j : Int), .ref ps[j], rfl, rfl, SqL.at u.tb.top, atI_nat (by rw [List.getElem?_map, ej]; rfl), ?_⟩
      refine ⟨.int (ix c : Int), rfl, ps[j], _, (ix c : Int), _, rfl, rfl, SqL.at hr, rw1_at _ hc2, ?_⟩
      refine ⟨.ref pc, rfl, .int (j : Int), rfl, pc, _, (j : Int), _, rfl, rfl, SqL.at u.ct, rw1_at _ hj, ?_⟩
      refine ⟨_, _, rfl, rfl, ps[j], _, (ix c : Int), ix c, rfl, rfl, hr, rw1_ix _ hc2, ?_⟩
      rw [rw1_set]
      have hpq : pc ≠ ps[j] := fun z => u.cn (by rw [z]; exact List.mem_cons_of_mem _ (List.getElem_mem _))
      refine ⟨_, rfl, PI1.congr ⟨same_upd u.sm hr0, u.tb.set ej _, by rw [upd_ne hpq]; exact u.ct, u.c0, u.cn⟩ (fun a b _ _ => ?_) (fun _ _ => rfl)⟩
      dsimp only
      by_cases ha : a = j
      · subst ha
        rw [if_pos rfl]
        by_cases hb : b = ix c
        · subst hb; rw [if_pos rfl, if_neg (by omega), if_pos (by omega)]
        · rw [if_neg hb, if_neg (by omega), if_neg (by omega)]
      · rw [if_neg ha]
        by_cases hb : b = ix c
        · by_cases h : a < j
          · rw [if_pos ⟨h, hb⟩, if_pos ⟨by omega, hb⟩]
          · rw [if_neg (by omega), if_neg (by omega)]
        · rw [if_neg (by omega), if_neg (by omega)]
    · subst es
      refine ⟨.ref pc, rfl, .int (ix c : Int), rfl, pc, _, (ix c : Int), _, rfl, rfl, SqL.at u.ct, rw1_at _ hc2, ?_⟩
      refine ⟨_, _, rfl, rfl, pc, _, (ix c : Int), ix c, rfl, rfl, u.ct, rw1_ix _ hc2, ?_⟩
      rw [rw1_set]
      refine ⟨_, _, _, _, rfl, PI1.congr ⟨same_upd u.sm u.c0, u.tb.away u.cn, upd_same, u.c0, u.cn⟩ (fun a b ha _ => ?_) (fun a _ => ?_)⟩
      · unfold stepP
        dsimp only
        rw [hf, hg]
        by_cases hb : b = ix c
        · rw [if_pos hb, if_pos ⟨ha, hb⟩]
        · rw [if_neg hb, if_neg (fun z => hb z.2)]
      · unfold stepP
        dsimp only
        rw [hg]
        by_cases e : a = ix c
        · subst e; simp
        · rw [if_neg e, if_neg e]
  · subst es
    have e1 : w.take (zs w).cps.size = w := List.take_of_length_le (by simp [zs])
    rw [e1] at u
    exact rows_ok r0 hK u.sm u.tb rfl (by decide) (by show 7 < 8; decide) hm hm q
theorem ds_tabP {Ls : Str} {sts : List Stmt} (ix : Nat → Nat) (hK : X.K = W.K) (hp : PSs X sts (tTabP X.K Ls)) : DSs W G0 H0 E X sts (wTabP ix Ls) := by
  refine ⟨fun env D D' Y z ⟨w, m, s2, s3, s4, s5, s6, s7, h1, h2, h3, h4⟩ => ⟨w, m, s2, s3, s4, s5, s6, s7, h1, h2, h3, z.rt _ h4⟩, _, hp, fun env σ G H Dv r h => ?_⟩
  obtain ⟨w, m, s2, s3, s4, s5, s6, s7, rfl, h2, h3, h4⟩ := h
  obtain ⟨v0, e0, r0⟩ := r.dt 0 _ rfl
  obtain ⟨v1, e1, r1⟩ := r.dt 1 _ rfl
  have hl : σ.length = 8 := r.len
  rw [rep_str r0] at e0
  rw [rep_int r1] at e1
  match σ, hl, e0, e1, r with
  | [x0, x1, x2, x3, x4, x5, x6, x7], _, e0, e1, r =>
    have h0 := Option.some.inj (show some x0 = _ from e0)
    have h1 := Option.some.inj (show some x1 = _ from e1)
    subst h0 h1
    exact tabP_ok r hK h2 h3 h4
/-! ### chains -/
def tEqI (i j : Nat) : TE := tCB (fun xs H Q => (∃ i, xs = [.int i] ∧ Q (.int i) H) ∨ ∃ k, xs = [.bl k] ∧ Q (.int (if k then 1 else 0)) H) (tCons (tOp rEq (tVar i) (tVar j)) tNil)
def tM1 (i : Nat) : TE := tOp (rI0 fun i j => .int (i + j)) (tVar i) (tC (.int 1))
def tTabC (K : PySem.W.Frag) (Ls : Str) : TS :=
  tSeq (tAsg (tLc (iRng1 (tCons (tM1 1) tNil)) (gName 4) tYes (tLc (iRng1 (tCons (tM1 1) tNil)) (gName 3) tYes (tEqI 4 3) [3]) [4]) (gName 5))
  (tSeq (tFor (iStr (tVar 0)) (gName 2) (tSeq (tAsg (tIx K Ls) (gName 4)) (tFor (iList K (tVar 5)) (gName 6) (tInc K (tVar 6) (tM1 4) (tOp (rIxL K) (tVar 6) (tVar 4))))))
  (tRet (tRows K 5 6)))
def stepC (ix : Nat → Nat) (f : Nat → Nat → Int) (c : Nat) : Nat → Nat → Int := fun i b => if b = ix c + 1 then f i b + f i (b - 1) else f i b
def foldC (ix : Nat → Nat) (w : List Nat) : Nat → Nat → Int := w.foldl (stepC ix) (fun i b => if i = b then 1 else 0)
theorem foldC_take {ix : Nat → Nat} {w : List Nat} {i c : Nat} (h : w[i]? = some c) : foldC ix (w.take (i + 1)) = stepC ix (foldC ix (w.take i)) c := by
  unfold foldC
  rw [List.take_succ, h, List.foldl_append]
  rfl
def wTabC (ix : Nat → Nat) (Ls : Str) : WS := fun env D _ => ∃ (w : List Nat) (m : Nat) (s2 s3 s4 s5 s6 : Sl), env = [.dt (.str w), .dt (.int (m : Int)), s2, s3, s4, s5, s6] ∧ (∀ c ∈ w, IxOk Ls m c (ix c)) ∧ m < 999 ∧ D.rt (.dt (tabD (m + 1) (m + 1) (foldC ix w)))
theorem rw1_snoc (j : Nat) (g : Nat → Int) : rw1 j g ++ [.int (g j)] = rw1 (j + 1) g := by
  unfold rw1
  rw [List.range_succ, List.map_append]
  rfl
/-- one row of the first table -/
theorem unit_ok {σ : L2.St} {H : Hp} {Q : VK} {i m : Nat} (h1 : σ[1]? = some (some (.int (m : Int)))) (h4 : σ[4]? = some (some (.int (i : Int)))) (hl : 5 ≤ σ.length) (hm : m < 999) (q : ∀ p H', Same H H' → H p = none → H' p = some (.lst (rw1 (m + 1) fun b => if i = b then 1 else 0)) → Q (.ref p) H') :
    tLc (iRng1 (tCons (tM1 1) tNil)) (gName 3) tYes (tEqI 4 3) [3] σ H Q := by
  have z1 : (1000 : Nat) < sizeLine := by decide
  refine ⟨.int m, h1, (m : Int), 1, rfl, rfl, (m : Int) + 1, rfl, by omega, by omega, fun D hD => ?_⟩
  rw [show ((m : Int) + 1).toNat = m + 1 by omega]
  refine lc_range (fun j Hx => Same H Hx ∧ Hx D = some (.lst (rw1 j fun b => if i = b then 1 else 0))) ⟨same_new hD, upd_same⟩ (fun j Hx hj ⟨s, e⟩ => ?_) (fun Hx ⟨s, e⟩ => q D Hx s hD e)
  refine ⟨(wipe_set List.mem_cons_self).trans (wipe_in fun _ h => h), ?_⟩
  unfold tYes
  dsimp only
  rw [if_pos rfl]
  have w4 : (wipe σ [3])[4]? = some (some (.int (i : Int))) := by
    show (σ.set 3 none)[4]? = _
    rw [List.getElem?_set_ne (by decide)]
    exact h4
  refine ⟨.int (i : Int), (by rw [List.getElem?_set_ne (by decide)]; exact w4), .int (0 + (j : Int)), (by rw [List.getElem?_set_self]; rw [wipe_length]; omega), ?_⟩
  have e1 : decide (V.int (i : Int) = V.int (0 + (j : Int))) = decide (i = j) := by
    rw [Bool.eq_iff_iff, decide_eq_true_iff, decide_eq_true_iff]
    constructor
    · intro z; have := V.int.inj z; omega
    · intro z; subst z; rw [Int.zero_add]
  refine ⟨rfl, .inr ⟨_, rfl, rw1 j (fun b => if i = b then 1 else 0), e, by rw [rw1_len]; omega, same_upd s (none_of (Same.refl _) hD), ?_⟩⟩
  rw [upd_same, e1]
  have e2 : (if decide (i = j) = true then (1 : Int) else 0) = (fun b => if i = b then (1 : Int) else 0) j := by
    by_cases h : i = j
    · simp [h]
    · simp [h]
  rw [e2, rw1_snoc]
theorem tabC_ok {Ls : Str} {ix : Nat → Nat} {w : List Nat} {m : Nat} {Dv : Ends} {s2 s3 s4 s5 s6 : Option V} (r0 : RelS W G0 H0 env σ G H) (hK : X.K = W.K) (hix : ∀ c ∈ w, IxOk Ls m c (ix c)) (hm : m < 999)
    (q : (dnOf W G0 H0 G Dv).rt (.dt (tabD (m + 1) (m + 1) (foldC ix w)))) : tTabC X.K Ls Dv [some (.str (zs w)), some (.int (m : Int)), s2, s3, s4, s5, s6] H := by
  have z1 : (1000 : Nat) < sizeLine := by decide
  refine ⟨.int m, rfl, (m : Int), 1, rfl, rfl, (m : Int) + 1, rfl, by omega, by omega, fun D hD => ?_⟩
  rw [show ((m : Int) + 1).toNat = m + 1 by omega]
  refine lc_range (fun i Hx => ∃ ps : List Addr, ps.length = i ∧ Tn H Hx D ps (m + 1) fun i b => if i = b then 1 else 0) ⟨[], rfl, Tn.new hD (Same.refl _)⟩ (fun i Hx hi ⟨ps, hl, t⟩ => ?_) (fun Hx ⟨ps, hl, t⟩ => ?_)
  · refine ⟨(wipe_set List.mem_cons_self).trans (wipe_in fun _ h => h), ?_⟩
    unfold tYes
    dsimp only
    rw [if_pos rfl, Int.zero_add]
    refine unit_ok (i := i) (m := m) rfl rfl (by show 5 ≤ 7; decide) hm fun p H' s hp hr => ⟨ps.map V.ref, s _ _ t.top, by rw [List.length_map]; omega, ps ++ [p], by rw [List.length_append, hl]; rfl, t.push s hp (by rw [hl]; exact hr)⟩
  refine ⟨.str (zs w), rfl, zs w, rfl, ?_⟩
  refine for_chars (fun i σ Hx => ∃ s2 s3 s4 s6, σ = [some (.str (zs w)), some (.int (m : Int)), s2, s3, s4, some (.ref D), s6] ∧ Same H Hx ∧ Tb H Hx D ps (m + 1) (m + 1) (foldC ix (w.take i))) ⟨_, _, _, _, rfl, t.sm, t.tb hl⟩
    (fun i c σ Hx ec ⟨s2, s3, s4, s6, es, sm, u⟩ => ?_) (fun σ Hx ⟨s2, s3, s4, s6, es, sm, u⟩ => ?_)
  · subst es
    have ec' : w[i]? = some c := by simpa [zs] using ec
    obtain ⟨hc1, hc2⟩ := hix c (List.mem_of_getElem? ec')
    rw [foldC_take ec']
    generalize hf : foldC ix (w.take i) = f at u ⊢
    refine ⟨rfl, .str (zs [c]), rfl, _, _, ix c, rfl, rfl, hc1, ?_⟩
    refine ⟨.ref D, rfl, D, rfl, ⟨_, SqL.at u.top⟩, ?_⟩
    refine for_list (xs := ps.map V.ref) (fun j σ Hx => ∃ s6, σ = [some (.str (zs w)), some (.int (m : Int)), some (.str (zs [c])), s3, some (.int (ix c : Int)), some (.ref D), s6] ∧ Same H Hx ∧ Tb H Hx D ps (m + 1) (m + 1) (fun a b => if a < j then stepC ix f c a b else f a b)) ⟨_, rfl, sm, u.congr fun a b _ _ => by rw [if_neg (by omega)]⟩
      (fun j σ Hx _ ⟨_, _, _, t⟩ => SqL.at t.top) (fun j x σ Hx ex ⟨s6, es, sm, u⟩ => ?_) (fun σ Hx ⟨s6, es, sm, u⟩ => ?_)
    · subst es
      rw [List.getElem?_map] at ex
      obtain ⟨qa, ej, rfl⟩ := Option.map_eq_some_iff.mp ex
      obtain ⟨hr, hr0⟩ := u.row j _ ej
      have hjn : j < m + 1 := by rw [← u.len]; exact (List.getElem?_eq_some_iff.mp ej).1
      have hc3 : ix c + 1 < m + 1 := by omega
      have ea : ((ix c : Nat) : Int) + 1 = ((ix c + 1 : Nat) : Int) := by omega
      refine ⟨.ref qa, rfl, .int (ix c : Int), rfl, (ix c : Int), 1, rfl, rfl, qa, _, (ix c : Int) + 1, _, rfl, rfl, SqL.at hr, by rw [ea]; exact rw1_at _ hc3, ?_⟩
      refine ⟨.ref qa, rfl, .int (ix c : Int), rfl, qa, _, (ix c : Int), _, rfl, rfl, SqL.at hr, rw1_at _ (show ix c < m + 1 by omega), ?_⟩
      refine ⟨_, _, rfl, rfl, qa, _, (ix c : Int) + 1, ix c + 1, rfl, rfl, hr, by rw [ea]; exact rw1_ix _ hc3, ?_⟩
      rw [rw1_set]
      refine ⟨_, rfl, same_upd sm hr0, (u.set ej _).congr fun a b _ _ => ?_⟩
      dsimp only
      by_cases ha : a = j
      · subst ha
        rw [if_pos rfl, if_pos (Nat.lt_succ_self a)]
        unfold stepC
        by_cases hb : b = ix c + 1
        · subst hb; simp
        · rw [if_neg hb, if_neg (by omega), if_neg hb]
      · rw [if_neg ha]
        by_cases h : a < j
        · rw [if_pos h, if_pos (by omega)]
        · rw [if_neg h, if_neg (by omega)]
    · subst es
      refine ⟨_, _, _, _, rfl, sm, u.congr fun a b ha _ => ?_⟩
      rw [if_pos (by rw [List.length_map, u.len]; exact ha)]
  · subst es
    have e1 : w.take (zs w).cps.size = w := List.take_of_length_le (by simp [zs])
    rw [e1] at u
    exact rows_ok r0 hK sm u rfl (by decide) (by show 6 < 7; decide) (by omega) (by omega) q
theorem ds_tabC {Ls : Str} {sts : List Stmt} (ix : Nat → Nat) (hK : X.K = W.K) (hp : PSs X sts (tTabC X.K Ls)) : DSs W G0 H0 E X sts (wTabC ix Ls) := by
  refine ⟨fun env D D' Y z ⟨w, m, s2, s3, s4, s5, s6, h1, h2, h3, h4⟩ => ⟨w, m, s2, s3, s4, s5, s6, h1, h2, h3, z.rt _ h4⟩, _, hp, fun env σ G H Dv r h => ?_⟩
  obtain ⟨w, m, s2, s3, s4, s5, s6, rfl, h2, h3, h4⟩ := h
  obtain ⟨v0, e0, r0⟩ := r.dt 0 _ rfl
  obtain ⟨v1, e1, r1⟩ := r.dt 1 _ rfl
  have hl : σ.length = 7 := r.len
  rw [rep_str r0] at e0
  rw [rep_int r1] at e1
  match σ, hl, e0, e1, r with
  | [x0, x1, x2, x3, x4, x5, x6], _, e0, e1, r =>
    have h0 := Option.some.inj (show some x0 = _ from e0)
    have h1 := Option.some.inj (show some x1 = _ from e1)
    subst h0 h1
    exact tabC_ok r hK h2 h3 h4
theorem pe_gS {x s : Str} {pos : Pos} (hg : Gl X x) (h : ∃ u, X.mg x = some u ∧ RelV (.str s) u) (hdb : (x == ("__debug__" : Str)) = false := by decide) : PE X (.Name x pos) (tC (.str s)) := by
  obtain ⟨u, h1, h2⟩ := h
  exact pe_glob hg h1 h2 hdb
end
end DL
/-! enumerate over lists, tuples, texts -/
namespace DL
open PySem PySem.Spec PyProof.Rows L2
theorem meets_enum1 {v : Value} {o : Obj} {Hh : Heap → Prop} (B : Begins v o Hh) :
    Meets (Builtin.«enumerate.__new__» ⟨[.type "enumerate", v], []⟩) (fun _ R s => Hh s.heap ∧
      R (.ok (.ret (.ref (s.heap.push o).objs.size))) { s with heap := (s.heap.push o).push { cls := .type "enumerate", data := .fields #[.none, .bool false, .ref s.heap.objs.size, rawInt 0, .none, .none] } }) :=
  .of_wp fun prog w A R s h => by
    obtain ⟨hp, g, d, tk, os⟩ := s
    obtain ⟨h1, h⟩ := h
    have hsub := sub_enumerate
    have itr : ∀ {A' : Around} {E : Value → Shared → Prop} {Q : Value → Shared → Prop}, Q (.ref hp.objs.size) ⟨hp.push o, g, d, tk, os⟩ → wpAny (model prog w) A' (pyIter v) Q E ⟨hp, g, d, tk, os⟩ :=
      fun q => B.iter prog w _ _ ⟨hp, g, d, tk, os⟩ _ h1 q
    wp_walk using itr
    refine wpAny_stack_any fun st => wpAny_pure ?_
    split
    · rename_i c _ _ _ _ _
      cases (c == Value.type "enumerate")
      · wp_walk using itr
        exact ⟨_, rfl, h⟩
      · wp_walk using itr
        exact ⟨_, rfl, h⟩
    · wp_walk using itr
      exact ⟨_, rfl, h⟩
section
variable {prog : Program} {w : World} {A : Around} {E : Value → Shared → Prop} {s : Shared}
theorem call_enum1 {v : Value} {o : Obj} {Hh : Heap → Prop} {Q : Value → Shared → Prop} (B : Begins v o Hh) (h1 : Hh s.heap)
    (h : ∀ h', IsEnum h' (s.heap.objs.size + 1) s.heap.objs.size 0 .none → h'.get? s.heap.objs.size = some o → (∀ b o, s.heap.get? b = some o → h'.get? b = some o) → Q (.ref (s.heap.objs.size + 1)) { s with heap := h' }) :
    wpAny (model prog w) A (call (.type "enumerate") [v]) Q E s := by
  refine callType_new F.called_enumerate (by decide) (F.typeCall_enumerate_1 _) (F.newCall_enumerate_1 _) (fun obj => F.args_object_init_2 obj _) F.entry_enumerate_new (meets_enum1 B) ⟨h1, ?_⟩
  have hz : (s.heap.push o).objs.size = s.heap.objs.size + 1 := Heap.size_push ..
  have he := Heap.get?_push_size (s.heap.push o) (o := { cls := .type "enumerate", data := .fields #[.none, .bool false, .ref s.heap.objs.size, rawInt 0, .none, .none] }) rfl
  show _ ∧ _
  rw [hz] at he ⊢
  exact ⟨⟨_, he, rfl⟩, h _ he (Heap.get?_push_of_some _ (Heap.get?_push_size _ B.free)) fun b o x => Heap.get?_push_of_some _ (Heap.get?_push_of_some _ x)⟩
end
def iEnumT (K : PySem.W.Frag) (ta : TA) : TI := fun σ H R => ta σ H fun vs H1 => ∃ v xs, vs = [v] ∧ srcOf K H1 v (fun r => R (IteA K r xs) H1) xs
theorem pi_enumT {X : Cx} {e : Expr} {ta : TA} {p pos tpos : Pos} {elts : List Expr} {kk : Nat} (hg : Gl X "enumerate") (hm : X.mg "enumerate" = none) (ha : PA X [e] ta) (hs : starEach [e] X.env = [(false, eval e X.env)] := by rfl) :
    PI X (.Tuple elts kk tpos) (.Call (.Name "enumerate" p) [e] [] pos) (iEnumT X.K ta) := by
  refine ⟨fun pins s σ H R I h => ?_⟩
  refine Call_ (ld_blt I hg hm boot_enumerate (PyProof.Rows.callWith_type1 (thn (ha.run pos pins s σ H _ I h) fun us s1 ⟨vs, H1, I1, r1, q1⟩ => ?_) hs rfl))
  obtain ⟨v, xs, ex, hq⟩ := q1
  subst ex
  cases r1 with
  | cons r rr =>
    cases rr
    obtain ⟨sr, q, has, o, HH, B, hh, k⟩ := begins_of I1 r hq
    refine call_enum1 B hh fun h' he g1 hk => wpAny_pyIter_enum he ?_
    have I2 : L2.Inv X pins σ H1 { s1 with heap := h' } := I1.kept (t' := s1.toks) hk
    refine ⟨s1.heap.objs.size + 1, [s1.heap.objs.size + 1, s1.heap.objs.size], _, _, H1, rfl, I2, turn_enumA sr xs (s1.heap.objs.size + 1) s1.heap.objs.size, ⟨⟨.none, he⟩, k _ _ g1, Nat.succ_ne_self _, Nat.zero_le _⟩, fun b hb => ?_, q⟩
    have e' : b = s1.heap.objs.size + 1 ∨ b = s1.heap.objs.size := by simpa using hb
    have hle : s1.heap.objs.size ≤ b := by
      rcases e' with z | z
      · rw [z]; exact Nat.le_add_right _ _
      · rw [z]; exact Nat.le_refl _
    exact I1.fpOk hle (I1.hok.fresh hle)
section
variable {W : Wd} {G0 H0 G G' H H' : Hp} {E : XK} {X : Cx} {k n : Nat} {env : Env1} {σ : L2.St}
def wEnumT (f : WE) : WL := fun env Q Y => f env (fun a => itemsD a (fun xs => Q (enumD xs))) Y
theorem di_enumT {elts : List Expr} {kk : Nat} {tpos : Pos} {a : Expr} {f : WE} {p pos : Pos} (B : DB0 W X) (hg : Gl X "enumerate") (hm : X.mg "enumerate" = none) (ha : DE W G0 H0 E X a f)
    (hs : starEach [a] X.env = [(false, eval a X.env)] := by rfl) (fs : ∀ x, foldedSetIterable (.Call (.Name "enumerate" p) [a] [] pos) X.env x = pure x := by intro _; rfl) : DI W G0 H0 E X (.Tuple elts kk tpos) (.Call (.Name "enumerate" p) [a] [] pos) (wEnumT f) := by
  obtain ⟨m, t, pt, q⟩ := ha
  refine ⟨fun env Q Q' Y z w => m _ _ _ _ (fun d w => itemsD_mono (fun xs w => z _ w) w) w, ⟨_, pi_enumT hg hm (pa_cons pt pa_nil hs) hs, fun env σ G H R r w => ?_⟩, fs⟩
  refine q env σ G H _ r (m _ _ _ _ (fun d w => ?_) w)
  intro v G1 H1 s1 rp
  obtain ⟨ds, xs, w1, h1⟩ := src_items (X := X) B.hK s1.gok rp w (Rr := fun ds xs sr => reps W.K G1 ds xs ∧ ∀ G' H', GOk W G' H' → Same G1 G' → sr.has X.K H' xs) fun ds xs sr _ r1 h => ⟨r1, h⟩
  refine ⟨v, xs, rfl, ?_⟩
  have imp : ∀ {v : V} {xs : List V} {A B : Src → Prop}, (∀ r, A r → B r) → srcOf X.K H1 v A xs → srcOf X.K H1 v B xs := fun {v xs A B} z h => by
    rcases h with ⟨a, e, h, q⟩ | ⟨a, e, h, q⟩ | ⟨a, e, h, q⟩
    · exact .inl ⟨a, e, h, z _ q⟩
    · exact .inr (.inl ⟨a, e, h, z _ q⟩)
    · exact .inr (.inr ⟨a, e, h, fun tk => z _ (q tk)⟩)
  refine imp (fun sr ⟨ra, hr⟩ => ?_) h1
  refine w1 _ G1 H1 s1 ⟨fun G' H' i d g s e => ?_, fun G' H' i d x H'' g s e hy => ?_, fun G' H' i g s e => ?_⟩
  · have hi := (List.getElem?_eq_some_iff.mp e).1
    unfold enumD at hi
    rw [List.length_map, List.length_zipIdx] at hi
    exact ⟨hr G' H' g s, by rw [ra.length]; exact hi⟩
  · obtain ⟨T, x1, rfl, nT, rfl, e1⟩ := hy
    unfold enumD at e
    rw [List.getElem?_map] at e
    obtain ⟨pq, ez, rfl⟩ := Option.map_eq_some_iff.mp e
    rw [List.getElem?_zipIdx] at ez
    obtain ⟨y, ea, rfl⟩ := Option.map_eq_some_iff.mp ez
    obtain ⟨y1, k1, k2⟩ := ra.get ea
    rw [e1] at k1; cases k1
    refine ⟨_, Gst.alloc g _ nT, ?_⟩
    unfold rep
    have sm := s.trans (same_new (o := HO.tup [.int (i : Nat), x1]) (g.nn nT))
    refine ⟨T, _, rfl, .inl (.inl upd_same), .cons ?_ (.cons (rep_mono sm _ _ k2) .nil)⟩
    show rep W.K _ (.int ((0 + i : Nat) : Int)) _
    rw [Nat.zero_add]
    exact rep_int'
  · unfold enumD at e
    rw [List.length_map, List.length_zipIdx] at e
    exact ⟨hr G' H' g s, by rw [ra.length]; exact e⟩
end
end DL
/-! a call of a local name that holds one of several defs -/
namespace DL
open PySem PySem.Spec PyProof.Rows L2
section
variable {W : Wd} {G0 H0 G G' H H' : Hp} {E : XK} {X : Cx} {k n : Nat} {env : Env1} {σ : L2.St}
def wCallV (W : Wd) (i : Nat) (fs : List (String × SpecD)) (g : WL) : WE := fun env Q X => ∃ nm S, (nm, S) ∈ fs ∧ env[i]? = some (.dt (.vr (.ref (W.cls nm)))) ∧ g env (fun ds => S ds Q X) X
/-- the def that the name holds is the one at the table's address -/
def AtCls (W : Wd) (X : Cx) (n k : Nat) (p : String × SpecD) : Prop := CalD W X.prog X.w X.mg X.base (Str.ofString p.1) k n p.2 ∧ X.mg (Str.ofString p.1) = some (.ref (W.cls p.1))
theorem de_callV {fs : List (String × SpecD)} {i : Nat} {x : Str} {e : Expr} {es : List Expr} {g : WL} {p pos : Pos} (C : DC W E k X) (h : ∀ p ∈ fs, AtCls W X n k p) (hn : n = (e :: es).length) (hN : X.N[i]? = some x) (hv : Vis X.env.scope x) (ha : DA W G0 H0 E X (e :: es) g)
    (hdb : (x == ("__debug__" : Str)) = false := by decide) (hcd : (x == ("__classdict__" : Str)) = false := by decide)
    (he : starEach (e :: es) X.env = (false, eval e X.env) :: starEach es X.env := by rfl) (hpl : (backTo pos (starEach es X.env)).any (·.1) = false := by rfl) : DE W G0 H0 E X (.Call (.Name x p) (e :: es) [] pos) (wCallV W i fs g) := by
  obtain ⟨m, ln, t, pt, q⟩ := ha
  refine ⟨fun env Q Q' Y z ⟨nm, S, hm, he, w⟩ => ⟨nm, S, hm, he, m _ _ _ _ (fun ds w => (h _ hm).1.mono _ _ _ _ _ z (fun _ h => h) w) w⟩,
    fun σ H Q => ∃ nm S, (nm, S) ∈ fs ∧ tCallL i (W.cls nm) (spD W n S) [] E t σ H Q, ?_, fun env σ G H Q r w => ?_⟩
  · refine ⟨fun pins s σ H Q I ⟨nm, S, hm, w⟩ => ?_⟩
    obtain ⟨⟨mS, f, fd, ps, gm, kp, bi, F⟩, hc⟩ := h _ hm
    rw [← C.hK] at kp bi F
    have ef : f = W.cls nm := by
      have := gm.symm.trans hc
      cases this
      rfl
    subst ef
    exact (pe_callL F C.room hN hv kp bi .nil C.pass pt hdb hcd he hpl).run pins s σ H Q I w
  · obtain ⟨nm, S, hm, ei, w⟩ := w
    have mS := (h _ hm).1.mono
    refine ⟨nm, S, hm, ?_, q env σ G H _ r (m _ _ _ _ (fun ds w => ?_) (ln _ _ _ w))⟩
    · obtain ⟨v, a, b⟩ := r.dt i _ ei
      rw [a, rep_vr b]
    · intro vs G1 H1 s1 rp
      rw [List.append_nil]
      have r1 := r.step s1
      exact ⟨by rw [rp.length, w.1, hn], G1, ds, s1.gok, rp, mS _ _ _ _ _ (fun d h => QE.step s1 h) (fun e h => XOk.step r1.st h) w.2⟩
theorem mo_callV {fs : List (String × SpecD)} {i : Nat} {g : WL} (hS : ∀ p ∈ fs, MonoD p.2) (hg : Mono g) : Mono (wCallV W i fs g) :=
  fun env Q Q' X z ⟨nm, S, hm, he, w⟩ => ⟨nm, S, hm, he, hg _ _ _ _ (fun ds h => hS _ hm _ _ _ _ _ z (fun _ h => h) h) w⟩
theorem mx_callV {fs : List (String × SpecD)} {i : Nat} {g : WL} (hS : ∀ p ∈ fs, MonoD p.2) (mg : Mono g) (hg : MonoX g) : MonoX (wCallV W i fs g) :=
  fun env Q X X' z ⟨nm, S, hm, he, w⟩ => ⟨nm, S, hm, he, hg _ _ _ _ z (mg _ _ _ _ (fun ds h => hS _ hm _ _ _ _ _ (fun _ h => h) z h) w)⟩
/-- the name of a def as a value -/
theorem de_fn {x : Str} {nm : String} {pos : Pos} (hg : Gl X x) (hm : X.mg x = some (.ref (W.cls nm))) (hdb : (x == ("__debug__" : Str)) = false := by decide) : DE W G0 H0 E X (.Name x pos) (wC (.vr (.ref (W.cls nm)))) :=
  de_const (v := .ref (W.cls nm)) (pe_glob (v := .ref (W.cls nm)) hg hm rfl hdb) fun _ => by unfold rep; rfl
end
end DL
/-! doubles, sums, periods, counts: the plain part -/
namespace LK
open PySem PySem.Spec PyProof.Rows L2 DL
abbrev LET : List Nat := [97, 98, 99, 100, 101, 102, 103, 104, 105, 106, 107, 108, 109, 110, 111, 112, 113, 114, 115, 116, 117, 118, 119, 120, 121, 122]
def isLet (c : Nat) : Bool := decide (c ∈ LET)
def okv (d : D) : Prop := isVr d = false ∧ ∀ s, d = .str s → s.length ≤ sizeLine ∧ okS s
def isIntD : D → Bool
  | .int _ => true
  | _ => false
def withinD (d : D) (lo hi : Int) : Bool := match d with
  | .int i => decide (lo ≤ i) && decide (i ≤ hi)
  | _ => false
def textD (d : D) (m : Int) : Bool := match d with
  | .str s => decide ((s.length : Int) ≤ m) && s.all isLet
  | _ => false
def wordD (d : D) : Bool := textD d 2000
def maskD (d : D) : Bool := match d with
  | .str s => decide (s.length ≤ 300) && s.all fun c => c == 63 || isLet c
  | _ => false
def bad (n : String) : Ex := ⟨n, [], []⟩
def strOf : D → List Nat
  | .str s => s
  | _ => []
def intOf : D → Int
  | .int i => i
  | _ => 0
def lets (m : Nat) : List Nat := LET.take m
def agreeC (a b : Nat) : Bool := a == b || (a == 63 || b == 63)
def fitsC (m w : List Nat) : Bool := decide (m.length = w.length) && (m.zip w).all fun p => agreeC p.1 p.2
def meetC (a b : List Nat) : D := if a.length = b.length ∧ ((a.zip b).all fun p => agreeC p.1 p.2) = true then .str ((a.zip b).map fun p => if p.1 = 63 then p.2 else p.1) else .non
def placesL (p w : List Nat) : List Nat := (List.range ((w.length : Int) - p.length + 1).toNat).filter fun at_ => decide ((w.drop at_).take p.length = p)
def allW (m : Nat) : Nat → List (List Nat)
  | 0 => [[]]
  | n + 1 => (allW m n).flatMap fun w => (lets m).map fun c => w ++ [c]
def fillL (m : Nat) (s : List Nat) : List (List Nat) := s.foldl (fun f c => f.flatMap fun w => (if c = 63 then lets m else [c]).map fun l => w ++ [l]) [[]]
def mplaces (m w : List Nat) : List Nat := (List.range ((w.length : Int) - m.length + 1).toNat).filter fun at_ => (m.zip (w.drop at_)).all fun p => agreeC p.1 p.2

def hasBad (s : List Nat) (m : Int) : Bool := s.any fun c => !(c == 63) && !decide (c ∈ lets m.toNat)
theorem word_ok {s : List Nat} (h : wordD (.str s) = true) : s.length ≤ 2000 ∧ okS s := by
  unfold wordD textD at h
  rw [Bool.and_eq_true, decide_eq_true_iff, List.all_eq_true] at h
  refine ⟨by omega, fun c hc => ?_⟩
  have := h.2 c hc
  unfold isLet LET at this
  simp at this
  omega
theorem word_str {d : D} (h : wordD d = true) : ∃ s, d = .str s := by
  cases d <;> first | exact ⟨_, rfl⟩ | cases h
theorem mask_str {d : D} (h : maskD d = true) : ∃ s, d = .str s := by
  cases d <;> first | exact ⟨_, rfl⟩ | cases h
theorem mask_ok {s : List Nat} (h : maskD (.str s) = true) : s.length ≤ 300 ∧ okS s := by
  unfold maskD at h
  rw [Bool.and_eq_true, decide_eq_true_iff, List.all_eq_true] at h
  refine ⟨by omega, fun c hc => ?_⟩
  have := h.2 c hc
  unfold isLet LET at this
  simp at this
  omega
theorem okv_str {s : List Nat} (h : s.length ≤ 2000) (o : okS s) : okv (.str s) := ⟨rfl, fun t e => by cases e; exact ⟨Nat.le_trans h (by decide), o⟩⟩
theorem okS_sub {s t : List Nat} (h : okS s) (hs : ∀ c ∈ t, c ∈ s) : okS t := fun c hc => h c (hs c hc)
theorem le_line {n m : Nat} (h : n ≤ m) (h2 : m ≤ 16777216) : n ≤ sizeLine := Nat.le_trans h (Nat.le_trans h2 (by decide))
theorem lets_len (m : Nat) (h : m ≤ 26) : (lets m).length = m := by
  unfold lets
  rw [List.length_take]
  exact Nat.min_eq_left h
theorem allW_len (m : Nat) (h : m ≤ 26) : ∀ n, (allW m n).length = m ^ n
  | 0 => rfl
  | n + 1 => by
    unfold allW
    rw [List.length_flatMap]
    have : ∀ l : List (List Nat), (l.map fun w => ((lets m).map fun c => w ++ [c]).length).sum = l.length * m := fun l => by
      induction l with
      | nil => simp
      | cons a l ih => rw [List.map_cons, List.sum_cons, ih, List.length_map, lets_len m h, List.length_cons, Nat.succ_mul, Nat.add_comm]
    rw [this, allW_len m h n, Nat.pow_succ]
theorem allW_word (m : Nat) : ∀ n, ∀ w ∈ allW m n, w.length = n ∧ ∀ c ∈ w, c ∈ lets m
  | 0, w, h => by
    simp [allW] at h
    subst h
    exact ⟨rfl, fun c hc => by simp at hc⟩
  | n + 1, w, h => by
    unfold allW at h
    rw [List.mem_flatMap] at h
    obtain ⟨v, hv, h⟩ := h
    rw [List.mem_map] at h
    obtain ⟨c, hc, rfl⟩ := h
    obtain ⟨a, b⟩ := allW_word m n v hv
    refine ⟨by rw [List.length_append, a]; rfl, fun d hd => ?_⟩
    rcases List.mem_append.mp hd with z | z
    · exact b d z
    · rw [List.mem_singleton.mp z]; exact hc
theorem pow_mono {m n k : Nat} (h1 : 1 ≤ m) (h : n ≤ k) : m ^ n ≤ m ^ k := Nat.pow_le_pow_right h1 h
theorem zip_len {s t : List Nat} : ((s.zip t).map fun p => D.tup [.str [p.1], .str [p.2]]).length ≤ s.length := by
  rw [List.length_map, List.length_zip]
  exact Nat.min_le_left _ _
theorem within_int {e : D} {lo hi : Int} (h : withinD e lo hi = true) : ∃ i, e = .int i ∧ lo ≤ i ∧ i ≤ hi := by
  cases e <;> first | (simp [withinD] at h; exact ⟨_, rfl, h.1, h.2⟩) | cases h
theorem fillL_snoc (m : Nat) (s : List Nat) (c : Nat) : fillL m (s ++ [c]) = (fillL m s).flatMap fun w => (if c = 63 then lets m else [c]).map fun l => w ++ [l] := by
  unfold fillL
  rw [List.foldl_append]
  rfl
theorem fillL_len (m : Nat) (h : m ≤ 26) : ∀ s : List Nat, (fillL m s.reverse).length = m ^ s.count 63
  | [] => rfl
  | c :: s => by
    rw [List.reverse_cons, fillL_snoc, List.length_flatMap]
    have : ∀ l : List (List Nat), (l.map fun w => ((if c = 63 then lets m else [c]).map fun x => w ++ [x]).length).sum = l.length * (if c = 63 then m else 1) := fun l => by
      induction l with
      | nil => simp
      | cons a l ih =>
        rw [List.map_cons, List.sum_cons, ih, List.length_map, List.length_cons, Nat.succ_mul, Nat.add_comm]
        congr 1
        split
        · exact lets_len m h
        · rfl
    rw [this, fillL_len m h s, List.count_cons]
    by_cases e : c = 63
    · rw [if_pos e, e, if_pos (by rfl), Nat.pow_succ]
    · rw [if_neg e, if_neg (by simpa using e), Nat.mul_one, Nat.add_zero]
theorem fillL_length (m : Nat) (h : m ≤ 26) (s : List Nat) : (fillL m s).length = m ^ s.count 63 := by
  have := fillL_len m h s.reverse
  rw [List.reverse_reverse, List.count_reverse] at this
  exact this
theorem fillL_word (m : Nat) (s : List Nat) : ∀ w ∈ fillL m s, w.length = s.length := by
  have : ∀ r : List Nat, ∀ w ∈ fillL m r.reverse, w.length = r.length := fun r => by
    induction r with
    | nil => intro w h; simp [fillL] at h; subst h; rfl
    | cons c r ih =>
      intro w h
      rw [List.reverse_cons, fillL_snoc, List.mem_flatMap] at h
      obtain ⟨v, hv, h⟩ := h
      rw [List.mem_map] at h
      obtain ⟨l, hl, rfl⟩ := h
      rw [List.length_append, ih v hv]
      rfl
  have := this s.reverse
  rw [List.reverse_reverse, List.length_reverse] at this
  exact this
theorem count_take (s : List Nat) (n : Nat) : (s.take n).count 63 ≤ s.count 63 := by
  conv => rhs; rw [← List.take_append_drop n s, List.count_append]
  omega
theorem range_snoc (lo : Nat) (p : Nat → Bool) : (List.range (lo + 1)).filter p = (List.range lo).filter p ++ (if p lo then [lo] else []) := by
  rw [List.range_succ, List.filter_append]
  congr 1
  cases h : p lo <;> simp [h]
theorem range_z (n : Nat) : (List.range n).map (fun i : Nat => D.int (i : Int)) = (List.range' 0 n).map fun i : Nat => D.int (i : Int) := by rw [List.range_eq_range']
theorem filt_len (n : Nat) (p : Nat → Bool) : ((List.range n).filter p).length ≤ n := by
  have := List.length_filter_le p (List.range n)
  rw [List.length_range] at this
  exact this
def itsOf : D → List D
  | .lst ds => ds
  | .tup ds => ds
  | .str s => s.map fun c => D.str [c]
  | _ => []
def abcH (c : Nat) : Prop := c = 63 ∨ c = 97 ∨ c = 98 ∨ c = 99
def abc (c : Nat) : Prop := c = 97 ∨ c = 98 ∨ c = 99
def fitsL (m w : List Nat) : Bool := decide (m.length = w.length) && (m.zip w).all fun p => p.1 == 63 || p.1 == p.2
def deepOk : D → Prop
  | .tup ds => ds.length ≤ 1 ∧ ∀ x ∈ ds, isVr x = false
  | .lst _ => True
  | .dct _ _ => True
  | _ => False
theorem deepOk_vr {d : D} (h : deepOk d) : isVr d = false := by cases d <;> first | rfl | exact h.elim
theorem le_d {n m : Nat} (h : Nat.ble n m = true) : n ≤ m := Nat.le_of_ble_eq_true h
theorem okvS {s : List Nat} (h : DL.okS s) (hl : s.length ≤ 2000) : okv (.str s) := okv_str hl h
theorem okvI {i : Int} : okv (.int i) := ⟨rfl, fun s e => by cases e⟩
theorem nats_ok {xs : List Nat} : okD (.tup (xs.map fun n => .int (n : Nat))) = true := by
  have := ok_tints (xs := xs.map fun n : Nat => (n : Int))
  rw [List.map_map] at this
  exact this
theorem nats_lay {xs : List Nat} : layD (.tup (xs.map fun n => .int (n : Nat))) = true := by
  unfold layD
  exact layDs_map xs fun _ _ => rfl
theorem ne_no {d : D} (h : layD d = true) : ¬ ((if True then !eqD d d else eqD d d) = true) := by
  rw [if_pos trivial, eqD_refl d h]
  decide
theorem ne_no' {d : D} (h : layD d = true) : ¬ ((!eqD d d) = true) := by
  rw [eqD_refl d h]
  decide
theorem chars_of {L : List Nat} : ∀ ys : List D, (∀ y ∈ ys, ∃ c, y = .str [c] ∧ c ∈ L) → ∃ w : List Nat, ys = w.map (fun c => D.str [c]) ∧ ∀ c ∈ w, c ∈ L
  | [], _ => ⟨[], rfl, fun c hc => by simp at hc⟩
  | y :: ys, h => by
    obtain ⟨c, rfl, hc⟩ := h y List.mem_cons_self
    obtain ⟨w, rfl, hw⟩ := chars_of ys fun z hz => h z (List.mem_cons_of_mem _ hz)
    exact ⟨c :: w, rfl, fun d hd => by
      rcases List.mem_cons.mp hd with e | e
      · rw [e]; exact hc
      · exact hw d e⟩
theorem flat_rep1 (n x : Nat) : (List.replicate n [x]).flatten = List.replicate n x := by
  induction n with
  | zero => rfl
  | succ n ih => rw [List.replicate_succ, List.flatten_cons, ih, List.replicate_succ]; rfl
theorem okS_rep (n c : Nat) (h : c < 1114112) : okS (List.replicate n c) := fun x hx => by rw [(List.mem_replicate.mp hx).2]; exact h
theorem okv_s {s : List Nat} (h : s.all (fun c => decide (c < 1114112)) = true) (hl : s.length ≤ 2000) : okv (.str s) := okvS (fun c hc => by
  have := List.all_eq_true.mp h c hc
  exact of_decide_eq_true this) hl
theorem okv_n {d : D} (h : isVr d = false) (h2 : ∀ s, d ≠ .str s) : okv d := ⟨h, fun s e => (h2 s e).elim⟩
theorem deep_okv {d : D} (h : deepOk d) : okv d ∧ maskD d = false ∧ wordD d = false ∧ ∀ a b, withinD d a b = false := by
  cases d <;> first | exact h.elim | exact ⟨⟨rfl, fun s e => by cases e⟩, rfl, rfl, fun _ _ => rfl⟩
theorem pair_ok {s : List Nat} {d : D} (h : okS s) (hd : layD d = true) (h0 : dpD d = 0) : okD (.tup [.str s, d]) = true := by
  refine okD_of ?_ ?_
  · unfold layD layDs layDs layDs
    rw [lay_str h, hd]
    rfl
  · unfold dpD dpDs dpDs dpDs
    rw [h0]
    show max 0 (max 0 0) + 1 ≤ 64
    decide
theorem lets_isLet {m c : Nat} (h : c ∈ lets m) : isLet c = true := decide_eq_true (List.mem_of_mem_take h)
theorem lets_word {m : Nat} {s : List Nat} (h : ∀ c ∈ s, c ∈ lets m) (hl : s.length ≤ 2000) : wordD (.str s) = true := by
  unfold wordD textD
  simp only [Bool.and_eq_true, decide_eq_true_iff, List.all_eq_true]
  exact ⟨by omega, fun c hc => lets_isLet (h c hc)⟩
theorem word_len {s : List Nat} (h : wordD (.str s) = true) : s.length ≤ sizeLine := le_line (word_ok h).1 (by decide)
theorem word_okv {s : List Nat} (h : wordD (.str s) = true) : okv (.str s) := okvS (word_ok h).2 (word_ok h).1
theorem word_perm {s t : List Nat} (h : wordD (.str s) = true) (p : t.Perm s) : wordD (.str t) = true := by
  unfold wordD textD at h ⊢
  simp only [Bool.and_eq_true, decide_eq_true_iff, List.all_eq_true] at h ⊢
  exact ⟨by rw [p.length_eq]; exact h.1, fun c hc => h.2 c (p.mem_iff.mp hc)⟩
theorem one_ok {c : Nat} (h : c < 1114112) : okD (.str [c]) = true := ok_str (by intro x hx; simp at hx; omega)
theorem sing_ok {s : List Nat} (h : okS s) : okD (.lst (s.map fun c => D.str [c])) = true := by
  have := ok_strs (xs := s.map fun c => [c]) (fun t ht c hc => by
    rw [List.mem_map] at ht
    obtain ⟨x, hx, rfl⟩ := ht
    simp at hc
    subst hc
    exact h c hx)
  rw [List.map_map] at this
  exact this
theorem sing_eq {s t : List Nat} : eqD (.lst (s.map fun c => D.str [c])) (.lst (t.map fun c => D.str [c])) = decide (s = t) := by
  have h := eqD_strs (xs := s.map fun c => [c]) (ys := t.map fun c => [c])
  rw [List.map_map, List.map_map] at h
  rw [Bool.eq_iff_iff, decide_eq_true_iff]
  refine Iff.trans h ⟨fun e => ?_, fun e => by rw [e]⟩
  have := congrArg (List.map (fun l : List Nat => l.headD 0)) e
  simpa [List.map_map, Function.comp_def] using this
theorem ixN_i {n j : Nat} (hj : j < n) : ixN n (j : Int) = some j := by
  unfold ixN
  rw [if_pos (by omega), if_pos (by omega)]
  simp
theorem map_erase {α β : Type} (f : α → β) : ∀ (l : List α) (i : Nat), (l.map f).eraseIdx i = (l.eraseIdx i).map f
  | [], _ => rfl
  | _ :: _, 0 => rfl
  | x :: l, i + 1 => by
    rw [List.map_cons, List.eraseIdx_cons_succ, List.eraseIdx_cons_succ, List.map_cons, map_erase f l i]
/-- the window at i of k signs -/
def wd (w : List Nat) (i k : Nat) : List Nat := (w.drop i).take k
theorem wd_len {w : List Nat} {i k : Nat} (h : i + k ≤ w.length) : (wd w i k).length = k := by
  unfold wd
  rw [List.length_take, List.length_drop]
  omega
theorem wd_len_le {w : List Nat} {i k : Nat} : (wd w i k).length ≤ w.length := by
  unfold wd
  rw [List.length_take, List.length_drop]
  omega
theorem wd_get {w : List Nat} {i k j : Nat} (h : j < k) : (wd w i k)[j]? = w[i + j]? := by
  unfold wd
  rw [List.getElem?_take, if_pos h, List.getElem?_drop]
theorem wd_rev {w : List Nat} {i k : Nat} (h : i + k ≤ w.length) : wd w.reverse i k = (wd w (w.length - i - k) k).reverse := by
  apply List.ext_getElem?
  intro j
  by_cases hj : j < k
  · have l2 : (wd w (w.length - i - k) k).length = k := wd_len (by omega)
    rw [wd_get hj, List.getElem?_reverse (by omega), List.getElem?_reverse (by omega), l2, wd_get (by omega)]
    congr 1
    omega
  · rw [List.getElem?_eq_none (by rw [wd_len (by rw [List.length_reverse]; exact h)]; omega), List.getElem?_eq_none (by rw [List.length_reverse, wd_len (by omega)]; omega)]
/-! ### doubles -/
def hit (w : List Nat) (e h : Nat) : Prop := (wd w (e - h) h).Perm (wd w (e - 2 * h) h)
instance {w : List Nat} {e h : Nat} : Decidable (hit w e h) := by unfold hit; infer_instance
def at2 (w : List Nat) (e h : Nat) : Prop := 2 ≤ e ∧ e ≤ w.length ∧ 1 ≤ h ∧ h ≤ e / 2
def noHit (w : List Nat) : Prop := ∀ e h, at2 w e h → ¬ hit w e h
def FD (w : List Nat) (d : D) : Prop := (d = .non ∧ noHit w) ∨ ∃ e h, at2 w e h ∧ hit w e h ∧ (∀ e' h', at2 w e' h' → (e' < e ∨ (e' = e ∧ h' < h)) → ¬ hit w e' h') ∧ d = .tup [.int ((e - 2 * h : Nat) : Int), .int (h : Int)]
theorem FD_uniq {w : List Nat} {d d' : D} (h1 : FD w d) (h2 : FD w d') : d = d' := by
  rcases h1 with ⟨rfl, n1⟩ | ⟨e, h, a, b, c, rfl⟩
  · rcases h2 with ⟨rfl, _⟩ | ⟨e, h, a, b, _, _⟩
    · rfl
    · exact (n1 e h a b).elim
  · rcases h2 with ⟨rfl, n1⟩ | ⟨e', h', a', b', c', rfl⟩
    · exact (n1 e h a b).elim
    · have h3 : ¬ (e' < e ∨ (e' = e ∧ h' < h)) := fun z => c e' h' a' z b'
      have h4 : ¬ (e < e' ∨ (e = e' ∧ h < h')) := fun z => c' e h a z b
      have : e = e' := by omega
      subst this
      have : h = h' := by omega
      subst this
      rfl
theorem hit_rev {w : List Nat} {e h : Nat} (a : at2 w e h) : hit w.reverse e h ↔ hit w (w.length - e + 2 * h) h := by
  obtain ⟨a1, a2, a3, a4⟩ := a
  unfold hit
  rw [wd_rev (by omega), wd_rev (by omega)]
  have e1 : w.length - (e - h) - h = w.length - e := by omega
  have e2 : w.length - (e - 2 * h) - h = w.length - e + h := by omega
  have e3 : w.length - e + 2 * h - h = w.length - e + h := by omega
  have e4 : w.length - e + 2 * h - 2 * h = w.length - e := by omega
  rw [e1, e2, e3, e4]
  constructor
  · intro p
    exact ((List.reverse_perm _).symm.trans (p.trans (List.reverse_perm _))).symm
  · intro p
    exact (List.reverse_perm _).trans (p.symm.trans (List.reverse_perm _).symm)
theorem noHit_rev {w : List Nat} (h : noHit w) : noHit w.reverse := fun e k a q => by
  obtain ⟨a1, a2, a3, a4⟩ := a
  rw [List.length_reverse] at a2
  refine h _ _ ?_ ((hit_rev ⟨a1, a2, a3, a4⟩).mp q)
  exact ⟨by omega, by omega, by omega, by omega⟩
theorem FD_rev {w : List Nat} {d d' : D} (h1 : FD w d) (h2 : FD w.reverse d') : d' = .non ↔ d = .non := by
  have key : ∀ {w : List Nat} {d : D}, FD w d → (d = .non ↔ noHit w) := fun {w d} h => by
    rcases h with ⟨rfl, n⟩ | ⟨e, h, a, b, _, rfl⟩
    · exact ⟨fun _ => n, fun _ => rfl⟩
    · exact ⟨(fun z => nomatch z), fun n => (n e h a b).elim⟩
  rw [key h1, key h2]
  refine ⟨fun z => ?_, noHit_rev⟩
  have := noHit_rev z
  rwa [List.reverse_reverse] at this
/-! ### the number of sums -/
theorem nd_len {α : Type} [BEq α] [LawfulBEq α] : ∀ {l m : List α}, l.Nodup → (∀ x ∈ l, x ∈ m) → l.length ≤ m.length
  | [], _, _, _ => Nat.zero_le _
  | x :: l, m, h, hs => by
    obtain ⟨h1, h2⟩ := List.nodup_cons.mp h
    have hx := hs x List.mem_cons_self
    have := nd_len (m := m.erase x) h2 fun y hy => (List.mem_erase_of_ne (fun e => h1 (by rw [← e]; exact hy))).mpr (hs y (List.mem_cons_of_mem _ hy))
    rw [List.length_erase_of_mem hx] at this
    have : 0 < m.length := List.length_pos_of_mem hx
    rw [List.length_cons]
    omega
def isW (w : List Nat) (k : Nat) (x : List Nat) : Prop := ∃ i, i + k ≤ w.length ∧ x = sortN (wd w i k)
def cnt (w : List Nat) (k c : Nat) : Prop := ∃ L : List (List Nat), L.Nodup ∧ (∀ x, x ∈ L ↔ isW w k x) ∧ c = L.length
theorem cnt_uniq {w : List Nat} {k c c' : Nat} (h : cnt w k c) (h' : cnt w k c') : c = c' := by
  obtain ⟨L, a, b, rfl⟩ := h
  obtain ⟨L', a', b', rfl⟩ := h'
  exact Nat.le_antisymm (nd_len a fun x hx => (b' x).mpr ((b x).mp hx)) (nd_len a' fun x hx => (b x).mpr ((b' x).mp hx))
theorem sort_rev (x : List Nat) : sortN x.reverse = sortN x := sortN_eq.mpr (List.reverse_perm x)
theorem isW_rev {w : List Nat} {k : Nat} {x : List Nat} (h : isW w k x) : isW w.reverse k x := by
  obtain ⟨i, hi, rfl⟩ := h
  refine ⟨w.length - i - k, by rw [List.length_reverse]; omega, ?_⟩
  rw [wd_rev (by omega), sort_rev]
  congr 2
  omega
theorem cnt_rev {w : List Nat} {k c : Nat} (h : cnt w.reverse k c) : cnt w k c := by
  obtain ⟨L, a, b, e⟩ := h
  refine ⟨L, a, fun x => (b x).trans ⟨fun z => ?_, isW_rev⟩, e⟩
  have := isW_rev z
  rwa [List.reverse_reverse] at this
def SZ (w : List Nat) (ks : List Nat) : Prop := ks.length = w.length + 1 ∧ ∀ k c, ks[k]? = some c → cnt w k c
theorem SZ_uniq {w ks ks' : List Nat} (h : SZ w ks) (h' : SZ w ks') : ks = ks' := by
  apply List.ext_getElem?
  intro i
  by_cases hi : i < w.length + 1
  · have a : i < ks.length := by rw [h.1]; exact hi
    have b : i < ks'.length := by rw [h'.1]; exact hi
    rw [List.getElem?_eq_getElem a, List.getElem?_eq_getElem b]
    exact congrArg some (cnt_uniq (h.2 i _ (List.getElem?_eq_getElem a)) (h'.2 i _ (List.getElem?_eq_getElem b)))
  · rw [List.getElem?_eq_none (by rw [h.1]; omega), List.getElem?_eq_none (by rw [h'.1]; omega)]
theorem SZ_rev {w ks : List Nat} (h : SZ w.reverse ks) : SZ w ks := ⟨by rw [h.1, List.length_reverse], fun k c e => cnt_rev (h.2 k c e)⟩
/-! ### periods of sums -/
def full (w : List Nat) (s : Nat) : Prop := ∀ j, j * s + s ≤ w.length → (wd w (j * s) s).Perm (wd w 0 s)
def rest (w : List Nat) (s : Nat) : List Nat := w.drop (w.length / s * s)
def ISP (w : List Nat) (s : Nat) : Prop := full w s ∧ ∀ c, (rest w s).count c ≤ (wd w 0 s).count c
def PR (w : List Nat) (p : Nat) : Prop := (p = 0 ∧ ∀ s, 1 ≤ s → s ≤ w.length → ¬ ISP w s) ∨ (1 ≤ p ∧ p ≤ w.length ∧ ISP w p ∧ ∀ s, 1 ≤ s → s < p → ¬ ISP w s)
theorem PR_uniq {w : List Nat} {p q : Nat} (h : PR w p) (h' : PR w q) : p = q := by
  rcases h with ⟨rfl, a⟩ | ⟨a, b, c, d⟩
  · rcases h' with ⟨rfl, _⟩ | ⟨a', b', c', _⟩
    · rfl
    · exact (a q a' b' c').elim
  · rcases h' with ⟨rfl, a'⟩ | ⟨a', b', c', d'⟩
    · exact (a' p a b c).elim
    · have h1 : ¬ q < p := fun z => d q a' z c'
      have h2 : ¬ p < q := fun z => d' p a z c
      omega
theorem PR_le {w : List Nat} {p : Nat} (h : PR w p) : p ≤ w.length := by
  rcases h with ⟨rfl, _⟩ | ⟨_, b, _⟩
  · exact Nat.zero_le _
  · exact b
/-! ### counts met -/
def cts (x : List Nat) (m : Nat) : List Nat := (LET.take m).map fun c => x.count c
def CM (w : List Nat) (cs : List Nat) (d : D) : Prop := (d = .non ∧ ∀ i, i + cs.sum ≤ w.length → cts (wd w i cs.sum) cs.length ≠ cs) ∨ ∃ i, i + cs.sum ≤ w.length ∧ cts (wd w i cs.sum) cs.length = cs ∧ (∀ j, j < i → cts (wd w j cs.sum) cs.length ≠ cs) ∧ d = .int (i : Int)
theorem CM_uniq {w cs : List Nat} {d d' : D} (h : CM w cs d) (h' : CM w cs d') : d = d' := by
  rcases h with ⟨rfl, a⟩ | ⟨i, a, b, c, rfl⟩
  · rcases h' with ⟨rfl, _⟩ | ⟨j, a', b', _, _⟩
    · rfl
    · exact (a j a' b').elim
  · rcases h' with ⟨rfl, a'⟩ | ⟨j, a', b', c', rfl⟩
    · exact (a' i a b).elim
    · have h1 : ¬ i < j := fun z => c' i z b
      have h2 : ¬ j < i := fun z => c j z b'
      rw [show i = j by omega]
/-! ### a told double -/
def isDb (w : List Nat) : D → Bool
  | .tup [.int a, .int h] => decide (0 ≤ a ∧ 1 ≤ h ∧ a + 2 * h ≤ (w.length : Int)) && decide ((wd w a.toNat h.toNat).Perm (wd w (a + h).toNat h.toNat))
  | _ => false
end LK
/-! what the program tells -/
namespace LK
open PySem PySem.Spec PyProof.Rows L2 DL
def S_is_integer : SpecD
  | [d], Q, _ => isVr d = false ∧ Q (.bl (isIntD d))
  | _, _, _ => False
theorem m_is_integer : MonoD S_is_integer := by
  intro ds Q Q' X X' z y h
  unfold S_is_integer at h ⊢
  split at h <;> first | exact h.elim | exact ⟨h.1, z _ h.2⟩
abbrev N_is_integer : List Str := ["thing"]
def b_is_integer : WS := wRet (wAndV (wCB gIsi (wCons (wVar 0) (wCons (wC (.vr (.ty "int"))) wNil))) (wNotV (wCB gIsi (wCons (wVar 0) (wCons (wC (.vr (.ty "bool"))) wNil)))))
theorem h_is_integer : ∀ ds Q Y, ds.length = 1 → S_is_integer ds Q Y → b_is_integer (startE N_is_integer ds) (dRet Q) Y := by
  intro ds Q Y hl h
  unfold S_is_integer at h
  split at h <;> try exact h.elim
  rename_i d
  obtain ⟨hv, h⟩ := h
  cases d <;> simp_all [b_is_integer, isIntD, wRet, wRetF, wRetOwn, wRetN, wIf, wSeq, wNext, wAsg, wAsgF, wN, wExpr, wRaise, wRaise1, wIs, wAndV, wOrV, wNotV, wAndT, wOrT, wNotT, wCB, wCall, wCons, wNil, wVar, wC, wTup, wLst, wDat, wRd, wOwn, wBor, DL.scal, wOp2, wOp1, wChain, gI, gI0, gU, gIsi, isiD, vrS, vrI, vrB, vrN, vrT, vrL, vrD, vrV, lenD, startE, dRet, Rs.d, tyOf, subTy, wItems, itemsD, wSl, wSm, wNo, slD, addD, mulD, idxD, wTupL, wMt, isStr, isLst, gEq, gIsN, DL.isNon, gIsB, wIfE, wFor, wRange1, wRange2, wZip, wLc, wipeE, ok_int, ok_bl, ok_non, eqD_int, eqD_bl, eqD_str, gt2, lcStep, wYes, gCountS, Int.natCast_inj]
def S_is_within : SpecD
  | [d, .int lo, .int hi], Q, _ => isVr d = false ∧ Q (.bl (withinD d lo hi))
  | _, _, _ => False
theorem m_is_within : MonoD S_is_within := by
  intro ds Q Q' X X' z y h
  unfold S_is_within at h ⊢
  split at h <;> first | exact h.elim | exact ⟨h.1, z _ h.2⟩
abbrev N_is_within : List Str := ["thing", "low", "high"]
def b_is_within : WS := wRet (wAndV (wCall S_is_integer (wCons (wVar 0) wNil)) (wChain (gI0 fun i j => .bl (decide (i ≤ j))) (gI0 fun i j => .bl (decide (i ≤ j))) (wVar 1) (wVar 0) (wVar 2)))
theorem h_is_within : ∀ ds Q Y, ds.length = 3 → S_is_within ds Q Y → b_is_within (startE N_is_within ds) (dRet Q) Y := by
  intro ds Q Y hl h
  unfold S_is_within at h
  split at h <;> try exact h.elim
  rename_i d lo hi
  obtain ⟨hv, h⟩ := h
  cases d <;> simp_all [b_is_within, S_is_integer, isIntD, withinD, wRet, wRetF, wRetOwn, wRetN, wIf, wSeq, wNext, wAsg, wAsgF, wN, wExpr, wRaise, wRaise1, wIs, wAndV, wOrV, wNotV, wAndT, wOrT, wNotT, wCB, wCall, wCons, wNil, wVar, wC, wTup, wLst, wDat, wRd, wOwn, wBor, DL.scal, wOp2, wOp1, wChain, gI, gI0, gU, gIsi, isiD, vrS, vrI, vrB, vrN, vrT, vrL, vrD, vrV, lenD, startE, dRet, Rs.d, tyOf, subTy, wItems, itemsD, wSl, wSm, wNo, slD, addD, mulD, idxD, wTupL, wMt, isStr, isLst, gEq, gIsN, DL.isNon, gIsB, wIfE, wFor, wRange1, wRange2, wZip, wLc, wipeE, ok_int, ok_bl, ok_non, eqD_int, eqD_bl, eqD_str, gt2, lcStep, wYes, gCountS, Int.natCast_inj]
  rename_i i
  by_cases e : lo ≤ i
  · simp_all
  · rw [if_neg e]
    simpa [e] using h
def S_is_text : SpecD
  | [d, .int m], Q, _ => okv d ∧ Q (.bl (textD d m))
  | _, _, _ => False
theorem m_is_text : MonoD S_is_text := by
  intro ds Q Q' X X' z y h
  unfold S_is_text at h ⊢
  split at h <;> first | exact h.elim | exact ⟨h.1, z _ h.2⟩
abbrev N_is_text : List Str := ["thing", "most", "sign"]
def b_is_text : WS := wRet (wAndV (wCB gIsi (wCons (wVar 0) (wCons (wC (.vr (.ty "str"))) wNil))) (wAndV (wOp2 (gI0 fun i j => .bl (decide (i ≤ j))) (wCB lenD (wCons (wVar 0) wNil)) (wVar 1)) (wCB allD (wCons (wDat (wLc (wItems (wVar 0)) (wN 2) wYes (wOp2 (inD false) (wVar 2) (wC (.str [97, 98, 99, 100, 101, 102, 103, 104, 105, 106, 107, 108, 109, 110, 111, 112, 113, 114, 115, 116, 117, 118, 119, 120, 121, 122]))) [2])) wNil))))
theorem h_is_text : ∀ ds Q Y, ds.length = 2 → S_is_text ds Q Y → b_is_text (startE N_is_text ds) (dRet Q) Y := by
  intro ds Q Y hl h
  unfold S_is_text at h
  split at h <;> try exact h.elim
  rename_i d m
  obtain ⟨hv, h⟩ := h
  cases d <;> simp_all [b_is_text, textD, okv, wRet, wRetF, wRetOwn, wRetN, wIf, wSeq, wNext, wAsg, wAsgF, wN, wExpr, wRaise, wRaise1, wIs, wAndV, wOrV, wNotV, wAndT, wOrT, wNotT, wCB, wCall, wCons, wNil, wVar, wC, wTup, wLst, wDat, wRd, wOwn, wBor, DL.scal, wOp2, wOp1, wChain, gI, gI0, gU, gIsi, isiD, vrS, vrI, vrB, vrN, vrT, vrL, vrD, vrV, lenD, startE, dRet, Rs.d, tyOf, subTy, wItems, itemsD, wSl, wSm, wNo, slD, addD, mulD, idxD, wTupL, wMt, isStr, isLst, gEq, gIsN, DL.isNon, gIsB, wIfE, wFor, wRange1, wRange2, wZip, wLc, wipeE, ok_int, ok_bl, ok_non, eqD_int, eqD_bl, eqD_str, gt2, lcStep, wYes, gCountS, Int.natCast_inj]
  rename_i s
  by_cases e : (s.length : Int) ≤ m
  · rw [if_pos e]
    simp [e] at h
    intro X'
    refine lc_map (f := fun c => D.str [c]) (g := fun c => D.bl (isLet c)) (fun c hc K hK => ?_) (allD_map h)
    simp [inD, isLet, wRet, wRetF, wRetOwn, wRetN, wIf, wSeq, wNext, wAsg, wAsgF, wN, wExpr, wRaise, wRaise1, wIs, wAndV, wOrV, wNotV, wAndT, wOrT, wNotT, wCB, wCall, wCons, wNil, wVar, wC, wTup, wLst, wDat, wRd, wOwn, wBor, DL.scal, wOp2, wOp1, wChain, gI, gI0, gU, gIsi, isiD, vrS, vrI, vrB, vrN, vrT, vrL, vrD, vrV, lenD, startE, dRet, Rs.d, tyOf, subTy, wItems, itemsD, wSl, wSm, wNo, slD, addD, mulD, idxD, wTupL, wMt, isStr, isLst, gEq, gIsN, DL.isNon, gIsB, wIfE, wFor, wRange1, wRange2, wZip, wLc, wipeE, ok_int, ok_bl, ok_non, eqD_int, eqD_bl, eqD_str, gt2, lcStep, wYes, gCountS, Int.natCast_inj] at hK ⊢
    exact hK
  · rw [if_neg e]
    simpa [e] using h
def S_is_word : SpecD
  | [d], Q, _ => okv d ∧ Q (.bl (wordD d))
  | _, _, _ => False
theorem m_is_word : MonoD S_is_word := by
  intro ds Q Q' X X' z y h
  unfold S_is_word at h ⊢
  split at h <;> first | exact h.elim | exact ⟨h.1, z _ h.2⟩
abbrev N_is_word : List Str := ["thing"]
def b_is_word : WS := wRet (wCall S_is_text (wCons (wVar 0) (wCons (wC (.int 2000)) wNil)))
theorem h_is_word : ∀ ds Q Y, ds.length = 1 → S_is_word ds Q Y → b_is_word (startE N_is_word ds) (dRet Q) Y := by
  intro ds Q Y hl h
  unfold S_is_word at h
  split at h <;> try exact h.elim
  obtain ⟨hv, h⟩ := h
  simp [b_is_word, S_is_text, hv, wRet, wRetF, wRetOwn, wRetN, wIf, wSeq, wNext, wAsg, wAsgF, wN, wExpr, wRaise, wRaise1, wIs, wAndV, wOrV, wNotV, wAndT, wOrT, wNotT, wCB, wCall, wCons, wNil, wVar, wC, wTup, wLst, wDat, wRd, wOwn, wBor, DL.scal, wOp2, wOp1, wChain, gI, gI0, gU, gIsi, isiD, vrS, vrI, vrB, vrN, vrT, vrL, vrD, vrV, lenD, startE, dRet, Rs.d, tyOf, subTy, wItems, itemsD, wSl, wSm, wNo, slD, addD, mulD, idxD, wTupL, wMt, isStr, isLst, gEq, gIsN, DL.isNon, gIsB, wIfE, wFor, wRange1, wRange2, wZip, wLc, wipeE, ok_int, ok_bl, ok_non, eqD_int, eqD_bl, eqD_str, gt2, lcStep, wYes, gCountS, Int.natCast_inj]
  exact h
def S_check_word : SpecD
  | [d], Q, X => okv d ∧ (if wordD d = true then Q .non else X (bad "BadWord"))
  | _, _, _ => False
theorem m_check_word : MonoD S_check_word := by
  intro ds Q Q' X X' z y h
  unfold S_check_word at h ⊢
  split at h <;> first | exact h.elim | exact ⟨h.1, ite_monoP (z _) (y _) h.2⟩
abbrev N_check_word : List Str := ["word"]
def b_check_word : WS := wIf (wNotT (wIs (wCall S_is_word (wCons (wVar 0) wNil)))) (wRaise "BadWord") wNext
theorem h_check_word : ∀ ds Q Y, ds.length = 1 → S_check_word ds Q Y → b_check_word (startE N_check_word ds) (dRet Q) Y := by
  intro ds Q Y hl h
  unfold S_check_word at h
  split at h <;> try exact h.elim
  rename_i d
  obtain ⟨hv, h⟩ := h
  simp [b_check_word, S_is_word, hv, wRet, wRetF, wRetOwn, wRetN, wIf, wSeq, wNext, wAsg, wAsgF, wN, wExpr, wRaise, wRaise1, wIs, wAndV, wOrV, wNotV, wAndT, wOrT, wNotT, wCB, wCall, wCons, wNil, wVar, wC, wTup, wLst, wDat, wRd, wOwn, wBor, DL.scal, wOp2, wOp1, wChain, gI, gI0, gU, gIsi, isiD, vrS, vrI, vrB, vrN, vrT, vrL, vrD, vrV, lenD, startE, dRet, Rs.d, tyOf, subTy, wItems, itemsD, wSl, wSm, wNo, slD, addD, mulD, idxD, wTupL, wMt, isStr, isLst, gEq, gIsN, DL.isNon, gIsB, wIfE, wFor, wRange1, wRange2, wZip, wLc, wipeE, ok_int, ok_bl, ok_non, eqD_int, eqD_bl, eqD_str, gt2, lcStep, wYes, gCountS, Int.natCast_inj]
  by_cases e : wordD d = true <;> simp_all [bad]
def S_check_words : SpecD
  | [d, e], Q, X => okv d ∧ okv e ∧ (if wordD d = true then (if wordD e = true then Q .non else X (bad "BadWord")) else X (bad "BadWord"))
  | _, _, _ => False
theorem m_check_words : MonoD S_check_words := by
  intro ds Q Q' X X' z y h
  unfold S_check_words at h ⊢
  split at h <;> first | exact h.elim | exact ⟨h.1, h.2.1, ite_monoP (ite_monoP (z _) (y _)) (y _) h.2.2⟩
abbrev N_check_words : List Str := ["one", "other"]
def b_check_words : WS := wSeq (wExpr (wCall S_check_word (wCons (wVar 0) wNil))) (wExpr (wCall S_check_word (wCons (wVar 1) wNil)))
theorem h_check_words : ∀ ds Q Y, ds.length = 2 → S_check_words ds Q Y → b_check_words (startE N_check_words ds) (dRet Q) Y := by
  intro ds Q Y hl h
  unfold S_check_words at h
  split at h <;> try exact h.elim
  rename_i d e
  obtain ⟨hv, hv2, h⟩ := h
  simp [b_check_words, S_check_word, hv, hv2, wRet, wRetF, wRetOwn, wRetN, wIf, wSeq, wNext, wAsg, wAsgF, wN, wExpr, wRaise, wRaise1, wIs, wAndV, wOrV, wNotV, wAndT, wOrT, wNotT, wCB, wCall, wCons, wNil, wVar, wC, wTup, wLst, wDat, wRd, wOwn, wBor, DL.scal, wOp2, wOp1, wChain, gI, gI0, gU, gIsi, isiD, vrS, vrI, vrB, vrN, vrT, vrL, vrD, vrV, lenD, startE, dRet, Rs.d, tyOf, subTy, wItems, itemsD, wSl, wSm, wNo, slD, addD, mulD, idxD, wTupL, wMt, isStr, isLst, gEq, gIsN, DL.isNon, gIsB, wIfE, wFor, wRange1, wRange2, wZip, wLc, wipeE, ok_int, ok_bl, ok_non, eqD_int, eqD_bl, eqD_str, gt2, lcStep, wYes, gCountS, Int.natCast_inj]
  by_cases e1 : wordD d = true <;> by_cases e2 : wordD e = true <;> simp_all [bad]
theorem isi_w {d : D} {n : String} {Q : PD} (h : isVr d = false) (hn : n ∈ ["int", "bool", "str", "tuple", "list", "dict"]) (q : Q (.bl (subTy (tyOf d) n))) : gIsi [d, .vr (.ty n)] Q := ⟨⟨h, hn, q⟩, fun d ts e => by cases e⟩
def tooM : Ex := ⟨"TooMany", [Str.ofString "most"], [.int 300]⟩
theorem cut_wd {w : List Nat} {lo hi : Int} {i k : Nat} (h1 : lo = (i : Int)) (h2 : hi = (i : Int) + (k : Int)) : cutD w (some lo) (some hi) = wd w i k := by
  subst h1 h2
  rw [cutD_int (by omega) (by omega)]
  unfold wd
  rw [Int.toNat_natCast, show ((i : Int) + (k : Int) - (i : Int)).toNat = k by omega]
theorem wd_ok {w : List Nat} {i k : Nat} (o : okS w) : okS (wd w i k) := okS_sub o fun c hc => List.mem_of_mem_drop (List.mem_of_mem_take hc)
abbrev sg (l : List Nat) : List D := l.map fun c => D.str [c]
theorem sg_ok {s : List Nat} (h : okS s) : okD (.lst (sg (sortN s))) = true := sing_ok (s := sortN s) (okS_sub h fun c hc => (sortN_perm s).mem_iff.mp hc)
theorem sg_eq {s t : List Nat} : eqD (.lst (sg (sortN s))) (.lst (sg (sortN t))) = decide (s.Perm t) := by
  rw [sing_eq]
  exact decide_eq_decide.mpr sortN_eq
/-! ### same letters -/
def S_same_letters : SpecD
  | [d, e], Q, X => okv d ∧ okv e ∧ (if wordD d = true then (if wordD e = true then Q (.bl (decide ((strOf d).Perm (strOf e)))) else X (bad "BadWord")) else X (bad "BadWord"))
  | _, _, _ => False
theorem m_same_letters : MonoD S_same_letters := by
  intro ds Q Q' X X' z y h
  unfold S_same_letters at h ⊢
  split at h <;> first | exact h.elim | exact ⟨h.1, h.2.1, (ite_monoP (ite_monoP (z _) (y _)) (y _)) h.2.2⟩
abbrev N_same_letters : List Str := ["one", "other"]
def b_same_letters : WS := wSeq (wExpr (wCall S_check_words (wCons (wVar 0) (wCons (wVar 1) wNil)))) (wRet (wOp2 (gEq false) (wDat (wCF sortedD (wCons (wVar 0) wNil))) (wDat (wCF sortedD (wCons (wVar 1) wNil)))))
theorem h_same_letters : ∀ ds Q Y, ds.length = 2 → S_same_letters ds Q Y → b_same_letters (startE N_same_letters ds) (dRet Q) Y := by
  intro ds Q Y hl h
  unfold S_same_letters at h
  split at h <;> try exact h.elim
  rename_i d e
  obtain ⟨hv, hv2, h⟩ := h
  by_cases e1 : wordD d = true
  · by_cases e2 : wordD e = true
    · rw [if_pos e1, if_pos e2] at h
      obtain ⟨s, rfl⟩ := word_str e1
      obtain ⟨t, rfl⟩ := word_str e2
      refine ⟨_, rfl, _, rfl, hv, hv2, itePos e1 (itePos e2 ?_)⟩
      refine ⟨_, rfl, word_len e1, _, rfl, word_len e2, sg_ok (word_ok e1).2, sg_ok (word_ok e2).2, ?_⟩
      rw [if_neg (by decide), sg_eq]
      exact h
    · rw [if_pos e1, if_neg e2] at h
      exact ⟨_, rfl, _, rfl, hv, hv2, itePos e1 (iteNeg e2 h)⟩
  · rw [if_neg e1] at h
    exact ⟨_, rfl, _, rfl, hv, hv2, iteNeg e1 h⟩
/-! ### the first double -/
def S_first_double : SpecD
  | [d], Q, X => okv d ∧ (if wordD d = true then (if 300 < (strOf d).length then X tooM else ∀ r, FD (strOf d) r → Q r) else X (bad "BadWord"))
  | _, _, _ => False
theorem m_first_double : MonoD S_first_double := by
  intro ds Q Q' X X' z y h
  unfold S_first_double at h ⊢
  split at h <;> first | exact h.elim | exact ⟨h.1, (ite_monoP (ite_monoP (y _) (fun h a0 a1 => (z _) (h a0 a1))) (y _)) h.2⟩
abbrev N_first_double : List Str := ["word", "end", "half"]
def b_first_double : WS := wSeq (wExpr (wCall S_check_word (wCons (wVar 0) wNil))) (wSeq (wIf (wIs (wOp2 (gI0 fun i j => .bl (decide (j < i))) (wCB lenD (wCons (wVar 0) wNil)) (wC (.int 300)))) (wRaise1 "TooMany" "most" (wC (.int 300))) wNext) (wSeq (wFor (wRange2 (wC (.int 2)) (wOp2 addD (wCB lenD (wCons (wVar 0) wNil)) (wC (.int 1)))) (wN 1) (wFor (wRange2 (wC (.int 1)) (wOp2 addD (wOp2 (gI CDivN fun i j => .int (i.fdiv j)) (wVar 1) (wC (.int 2))) (wC (.int 1)))) (wN 2) (wIf (wIs (wOp2 (gEq false) (wDat (wCF sortedD (wCons (wSl (wVar 0) (wSm (wOp2 (gI0 fun i j => .int (i - j)) (wVar 1) (wVar 2))) (wSm (wVar 1))) wNil))) (wDat (wCF sortedD (wCons (wSl (wVar 0) (wSm (wOp2 (gI0 fun i j => .int (i - j)) (wVar 1) (wOp2 mulD (wC (.int 2)) (wVar 2)))) (wSm (wOp2 (gI0 fun i j => .int (i - j)) (wVar 1) (wVar 2)))) wNil))))) (wRet (wTup (wCons (wOp2 (gI0 fun i j => .int (i - j)) (wVar 1) (wOp2 mulD (wC (.int 2)) (wVar 2))) (wCons (wVar 2) wNil)))) wNext))) (wRet (wC .non))))
theorem rg_2 {n : Nat} : rangeD 2 ((n : Int) + 1) = (List.range (n - 1)).map fun i : Nat => D.int ((i + 2 : Nat) : Int) := by
  unfold rangeD
  rw [show ((n : Int) + 1 - 2).toNat = n - 1 by omega]
  exact List.map_congr_left fun i _ => by rw [show (2 : Int) + (i : Int) = ((i + 2 : Nat) : Int) by omega]
theorem rg_1 {n : Nat} : rangeD 1 ((n : Int) + 1) = (List.range n).map fun i : Nat => D.int ((i + 1 : Nat) : Int) := by
  unfold rangeD
  rw [show ((n : Int) + 1 - 1).toNat = n by omega]
  exact List.map_congr_left fun i _ => by rw [show (1 : Int) + (i : Int) = ((i + 1 : Nat) : Int) by omega]
theorem rg_at {p r : List Nat} {c n : Nat} (h : p ++ c :: r = List.range n) : c = p.length ∧ p.length < n := by
  have hl : p.length < n := by
    have := congrArg List.length h
    rw [List.length_append, List.length_cons, List.length_range] at this
    omega
  have h9 : (p ++ c :: r)[p.length]? = (List.range n)[p.length]? := by rw [h]
  rw [List.getElem?_append_right (Nat.le_refl _), Nat.sub_self, List.getElem?_range hl] at h9
  exact ⟨Option.some.inj h9, hl⟩
theorem fd_n {a b : Nat} : ((a : Int)).fdiv (b : Int) = ((a / b : Nat) : Int) := by rw [Int.fdiv_eq_ediv_of_nonneg _ (by omega)]; rfl
theorem h_first_double : ∀ ds Q Y, ds.length = 1 → S_first_double ds Q Y → b_first_double (startE N_first_double ds) (dRet Q) Y := by
  intro ds Q Y hl h
  unfold S_first_double at h
  split at h <;> try exact h.elim
  rename_i d
  obtain ⟨hv, h⟩ := h
  by_cases e1 : wordD d = true
  · rw [if_pos e1] at h
    obtain ⟨w, rfl⟩ := word_str e1
    have o := word_ok e1
    have hz := word_len e1
    have hsz : sizeLine = 16777216 := rfl
    refine ⟨_, rfl, hv, itePos e1 ⟨_, rfl, hz, _, _, rfl, rfl, _, rfl, ?_⟩⟩
    by_cases e2 : 300 < w.length
    · rw [show (strOf (.str w)).length = w.length from rfl, if_pos e2] at h
      exact itePos (decide_eq_true (by omega)) h
    · rw [show (strOf (.str w)).length = w.length from rfl, if_neg e2] at h
      change ∀ r, FD w r → Q r at h
      refine iteNeg (by rw [decide_eq_true_iff]; omega) ?_
      refine ⟨_, rfl, hz, 2, (w.length : Int) + 1, rfl, rfl, ⟨by omega, by omega, by omega, by omega⟩, ?_⟩
      rw [rg_2]
      refine for_run (f := fun i : Nat => D.int ((i + 2 : Nat) : Int)) (st := fun (_ : Unit) (x : Sl × Sl) => [.dt (.str w), x.1, x.2]) (sb := fun _ x i => [.dt (.str w), .dt (.int ((i + 2 : Nat) : Int)), x.2])
        (P := fun p r _ => p ++ r = List.range (w.length - 1) ∧ ∀ e k, at2 w e k → e < p.length + 2 → ¬ hit w e k) _ (fun a x c Q q => q) (fun p c r _ x D' hP e3 e4 k1 => ?_) (fun p _ x hP => ?_) () (.non, .non) ⟨rfl, fun e k a z => by have := a.1; simp at z; omega⟩
      · obtain ⟨hp, hn⟩ := hP
        obtain ⟨rfl, hpl⟩ := rg_at hp
        have hen : p.length + 2 ≤ w.length := by omega
        generalize he : p.length + 2 = e at *
        have e22 : 2 ≤ e := by omega
        have hd : ((e : Nat) : Int).fdiv 2 = ((e / 2 : Nat) : Int) := fd_n (b := 2)
        refine ⟨_, rfl, _, _, rfl, rfl, ⟨by omega, by omega⟩, 1, ((e / 2 : Nat) : Int) + 1, rfl, by rw [hd], ⟨by omega, by omega, by omega, by omega⟩, ?_⟩
        rw [rg_1]
        refine for_run (f := fun i : Nat => D.int ((i + 1 : Nat) : Int)) (st := fun (_ : Unit) (y : Sl) => [.dt (.str w), .dt (.int (e : Int)), y]) (sb := fun _ y i => [.dt (.str w), .dt (.int (e : Int)), .dt (.int ((i + 1 : Nat) : Int))])
          (P := fun q r _ => q ++ r = List.range (e / 2) ∧ ∀ k, at2 w e k → k < q.length + 1 → ¬ hit w e k) _ (fun a x c Q q => q) (fun q c r2 _ y D2 hQ e5 e6 k2 => ?_) (fun q _ y hQ => ?_) () x.2 ⟨rfl, fun k a z => by have := a.2.2.1; simp at z; omega⟩
        · obtain ⟨hq, hm⟩ := hQ
          obtain ⟨rfl, hql⟩ := rg_at hq
          generalize hk : q.length + 1 = k at *
          have hke : k ≤ e / 2 := by omega
          have ha : at2 w e k := ⟨e22, hen, by omega, hke⟩
          have h2k : 2 * k ≤ e := by omega
          have w1 : cutD w (some ((e : Int) - (k : Int))) (some (e : Int)) = wd w (e - k) k := cut_wd (by omega) (by omega)
          have w2 : cutD w (some ((e : Int) - 2 * (k : Int))) (some ((e : Int) - (k : Int))) = wd w (e - 2 * k) k := cut_wd (by omega) (by omega)
          have l1 := @wd_len_le w (e - k) k
          have l2 := @wd_len_le w (e - 2 * k) k
          refine ⟨_, rfl, _, rfl, _, rfl, _, _, rfl, rfl, _, rfl, _, rfl, _, rfl, hz, by rw [w1]; omega, ?_⟩
          refine ⟨_, rfl, _, rfl, _, rfl, .inl ⟨by omega, by omega⟩, _, _, rfl, rfl, _, rfl, _, rfl, _, rfl, _, _, rfl, rfl, _, rfl, hz, by rw [w2]; omega, ?_⟩
          rw [w1, w2]
          refine ⟨sg_ok (wd_ok o.2), sg_ok (wd_ok o.2), _, rfl, ?_⟩
          rw [if_neg (show ¬ (false = true) by decide), sg_eq]
          by_cases hh : (wd w (e - k) k).Perm (wd w (e - 2 * k) k)
          · refine itePos (decide_eq_true hh) ?_
            refine ⟨_, rfl, _, rfl, .inl ⟨by omega, by omega⟩, _, _, rfl, rfl, _, rfl, le_d rfl, ?_⟩
            rw [e5, e3]
            refine h _ (.inr ⟨e, k, ha, hh, fun e' k' a z => ?_, ?_⟩)
            · rcases z with z | ⟨rfl, z⟩
              · exact hn e' k' a z
              · exact hm k' a z
            · show D.tup [.int ((e : Int) - 2 * (k : Int)), .int (k : Int)] = _
              rw [show (e : Int) - 2 * (k : Int) = ((e - 2 * k : Nat) : Int) by omega]
          · refine iteNeg (by rw [decide_eq_true_iff]; exact hh) ?_
            refine (k2 () (.dt (.int (k : Int))) ⟨by rw [← hq]; simp, fun k' a z => ?_⟩).1
            rw [List.length_append, List.length_singleton] at z
            by_cases z2 : k' < k
            · exact hm k' a z2
            · have : k' = k := by omega
              subst this
              exact hh
        · obtain ⟨hq, hm⟩ := hQ
          rw [List.append_nil] at hq
          subst hq
          rw [List.length_range] at hm
          refine (k1 () (.dt (.int (e : Int)), y) ⟨by rw [← hp]; simp, fun e' k a z => ?_⟩).1
          rw [List.length_append, List.length_singleton] at z
          by_cases z2 : e' < e
          · exact hn e' k a z2
          · have : e' = e := by omega
            subst this
            exact hm k a (by have := a.2.2.2; omega)
      · obtain ⟨hp, hn⟩ := hP
        rw [List.append_nil] at hp
        subst hp
        rw [List.length_range] at hn
        refine h _ (.inl ⟨rfl, fun e k a => hn e k a ?_⟩)
        have := a.2.1
        have := a.1
        omega
  · rw [if_neg e1] at h
    exact ⟨_, rfl, hv, iteNeg e1 h⟩
end LK
/-! what the program tells: sums -/
namespace LK
open PySem PySem.Spec PyProof.Rows L2 DL
abbrev nts (r : List Nat) : List D := r.map fun n : Nat => D.int (n : Int)
/-! ### the numbers of sums -/
def S_sum_sizes : SpecD
  | [d], Q, X => okv d ∧ (if wordD d = true then (if 300 < (strOf d).length then X tooM else ∀ r, SZ (strOf d) r → Q (.tup (nts r))) else X (bad "BadWord"))
  | _, _, _ => False
theorem m_sum_sizes : MonoD S_sum_sizes := by
  intro ds Q Q' X X' z y h
  unfold S_sum_sizes at h ⊢
  split at h <;> first | exact h.elim | exact ⟨h.1, (ite_monoP (ite_monoP (y _) (fun h a0 a1 => (z _) (h a0 a1))) (y _)) h.2⟩
abbrev N_sum_sizes : List Str := ["word", "found", "size", "at"]
def b_sum_sizes : WS := wSeq (wExpr (wCall S_check_word (wCons (wVar 0) wNil))) (wSeq (wIf (wIs (wOp2 (gI0 fun i j => .bl (decide (j < i))) (wCB lenD (wCons (wVar 0) wNil)) (wC (.int 300)))) (wRaise1 "TooMany" "most" (wC (.int 300))) wNext) (wSeq (wAsgF 1 (wLst wNil)) (wSeq (wFor (wRange1 (wOp2 addD (wCB lenD (wCons (wVar 0) wNil)) (wC (.int 1)))) (wN 2) (wApp 1 (wLenSc (wRange1 (wOp2 addD (wOp2 (gI0 fun i j => .int (i - j)) (wCB lenD (wCons (wVar 0) wNil)) (wVar 2)) (wC (.int 1)))) (wN 3) wYes (wMt isStr gJoin (wC (.str [])) (wCons (wDat (wCF sortedD (wCons (wSl (wVar 0) (wSm (wVar 3)) (wSm (wOp2 addD (wVar 3) (wVar 2)))) wNil))) wNil)) [3]))) (wRet (wTupL (wOwn 1))))))
theorem rg_0 {n : Nat} : rangeD 0 ((n : Int) + 1) = (List.range (n + 1)).map fun i : Nat => D.int (i : Int) := rangeD_z (n := n + 1)
theorem h_sum_sizes : ∀ ds Q Y, ds.length = 1 → S_sum_sizes ds Q Y → b_sum_sizes (startE N_sum_sizes ds) (dRet Q) Y := by
  intro ds Q Y hl h
  unfold S_sum_sizes at h
  split at h <;> try exact h.elim
  rename_i d
  obtain ⟨hv, h⟩ := h
  by_cases e1 : wordD d = true
  · rw [if_pos e1] at h
    obtain ⟨w, rfl⟩ := word_str e1
    have o := word_ok e1
    have hz := word_len e1
    have hsz : sizeLine = 16777216 := rfl
    refine ⟨_, rfl, hv, itePos e1 ⟨_, rfl, hz, _, _, rfl, rfl, _, rfl, ?_⟩⟩
    by_cases e2 : 300 < w.length
    · rw [show (strOf (.str w)).length = w.length from rfl, if_pos e2] at h
      exact itePos (decide_eq_true (by omega)) h
    · rw [show (strOf (.str w)).length = w.length from rfl, if_neg e2] at h
      change ∀ r, SZ w r → Q (.tup (nts r)) at h
      refine iteNeg (by rw [decide_eq_true_iff]; omega) ?_
      refine ⟨by show 0 ≤ sizeLine; decide, ?_⟩
      refine ⟨_, rfl, hz, (w.length : Int) + 1, rfl, by omega, by omega, ?_⟩
      rw [rg_0]
      refine for_run (f := fun i : Nat => D.int (i : Int)) (st := fun (a : List Nat) (x : Sl) => [.dt (.str w), .ow (nts a), x, .non]) (sb := fun a x i => [.dt (.str w), .ow (nts a), .dt (.int (i : Int)), .non])
        (P := fun p r a => p ++ r = List.range (w.length + 1) ∧ a.length = p.length ∧ ∀ k c, a[k]? = some c → cnt w k c) _ (fun a x c Q q => q) (fun p c r a x D' hP e3 e4 k1 => ?_) (fun p a x hP => ?_) [] .non ⟨rfl, rfl, fun k c z => by simp at z⟩
      · obtain ⟨hp, hl, ha⟩ := hP
        obtain ⟨rfl, hpl⟩ := rg_at hp
        generalize hk : p.length = k at *
        refine ⟨_, rfl, _, rfl, hz, _, rfl, _, _, rfl, rfl, ((w.length - k : Nat) : Int) + 1, ?_, by omega, by omega, ?_⟩
        · show D.int ((w.length : Int) - (k : Int) + 1) = _
          rw [show (w.length : Int) - (k : Int) = ((w.length - k : Nat) : Int) by omega]
        rw [rg_0]
        refine ⟨by rw [List.length_map, List.length_range]; omega, fun X' => ?_⟩
        refine lc_map (f := fun i : Nat => D.int (i : Int)) (g := fun i : Nat => D.str (sortN (wd w i k))) (fun i hi K hK => ?_) (fun L nd mem => ?_)
        · have w1 : cutD w (some (i : Int)) (some ((i : Int) + (k : Int))) = wd w i k := cut_wd rfl rfl
          have l1 := @wd_len_le w i k
          refine ⟨⟨_, rfl⟩, _, rfl, _, rfl, _, rfl, _, rfl, _, rfl, _, rfl, hz, by rw [w1]; omega, ?_⟩
          rw [w1]
          refine gJoin_1 (f := fun c => c) (by rw [sortN_len]; omega) ?_
          rw [List.map_id']
          exact ⟨_, rfl, hK⟩
        · have hc : cnt w k L.length := by
            refine ⟨L.map fun x : Str => x.cps.toList, nodup_zs nd, fun x => ?_, by rw [List.length_map]⟩
            have hx : x ∈ L.map (fun y : Str => y.cps.toList) ↔ D.str x ∈ (List.range (w.length - k + 1)).map fun i : Nat => D.str (sortN (wd w i k)) := by
              rw [List.mem_map]
              constructor
              · rintro ⟨y, hy, rfl⟩
                exact (mem y).mp hy
              · intro z
                refine ⟨zs x, (mem (zs x)).mpr ?_, by simp [zs]⟩
                rw [show (zs x).cps.toList = x by simp [zs]]
                exact z
            rw [hx, List.mem_map]
            constructor
            · rintro ⟨i, hi, e⟩
              have := List.mem_range.mp hi
              exact ⟨i, by omega, (D.str.inj e).symm⟩
            · rintro ⟨i, hi, rfl⟩
              exact ⟨i, List.mem_range.mpr (by omega), rfl⟩
          refine ⟨by show (nts a).length < _; rw [List.length_map]; omega, ?_⟩
          have ea : nts a ++ [D.int (L.length : Int)] = nts (a ++ [L.length]) := by unfold nts; rw [List.map_append]; rfl
          rw [ea]
          refine (k1 (a ++ [L.length]) (.dt (.int (k : Int))) ⟨by rw [← hp]; simp, by rw [List.length_append, List.length_append, hl, hk]; rfl, fun k' c z => ?_⟩).1
          by_cases e : k' < a.length
          · rw [List.getElem?_append_left e] at z
            exact ha k' c z
          · rw [List.getElem?_append_right (by omega)] at z
            have : k' - a.length = 0 := by
              refine Nat.lt_one_iff.mp ?_
              exact (List.getElem?_eq_some_iff.mp z).1
            rw [this] at z
            cases z
            have : k' = k := by omega
            rw [this]
            exact hc
      · obtain ⟨hp, hl, ha⟩ := hP
        rw [List.append_nil] at hp
        subst hp
        rw [List.length_range] at hl
        exact ⟨_, rfl, h a ⟨hl, ha⟩⟩
  · rw [if_neg e1] at h
    exact ⟨_, rfl, hv, iteNeg e1 h⟩
end LK
/-! what the program tells: periods of sums -/
namespace LK
open PySem PySem.Spec PyProof.Rows L2 DL
theorem rgC_up {i j c : Nat} (hij : i < j) (hj : j ≤ 100000) (hc : 1 ≤ c) (hc2 : c ≤ 100000) : L2.RgC (i : Int) (j : Int) (c : Int) ((j - i - 1) / c + 1) := by
  have e : Builtin.Range.rangeSize (i : Int) (j : Int) (c : Int) = (((j - i - 1) / c + 1 : Nat) : Int) := by
    unfold Builtin.Range.rangeSize
    have h1 : (c : Int) > 0 := by omega
    have h2 : (i : Int) < j := by omega
    rw [if_pos h1, if_pos h2]
    have h3 : (j : Int) - i - 1 = ((j - i - 1 : Nat) : Int) := by omega
    rw [h3]
    push_cast
    rfl
  refine ⟨by omega, by omega, ?_, e⟩
  unfold Builtin.Range.small
  rw [e]
  have hd : (j - i - 1) / c ≤ j - i - 1 := Nat.div_le_self _ _
  have hp : (i : Int) + (((j - i - 1) / c + 1 : Nat) : Int) * (c : Int) ≤ 300000 := by
    have : (j - i - 1) / c * c ≤ j - i - 1 := Nat.div_mul_le_self _ _
    have h5 : (((j - i - 1) / c + 1) * c : Nat) ≤ 200000 := by rw [Nat.add_mul]; omega
    have : ((((j - i - 1) / c + 1) * c : Nat) : Int) = (((j - i - 1) / c + 1 : Nat) : Int) * (c : Int) := by push_cast; rfl
    omega
  have hp0 : 0 ≤ (((j - i - 1) / c + 1 : Nat) : Int) * (c : Int) := Int.mul_nonneg (Int.natCast_nonneg _) (Int.natCast_nonneg _)
  clear e
  generalize (j - i - 1) / c = q at *
  have hc0 : (c : Int) > 0 := by omega
  simp only [Builtin.Range.rangeFitsLong, Bool.and_eq_true, Bool.or_eq_true, decide_eq_true_eq, beq_iff_eq]
  refine ⟨?_, .inr ?_⟩
  · repeat' apply And.intro
    all_goals omega
  · rw [if_pos hc0, Bool.and_eq_true, decide_eq_true_iff, decide_eq_true_iff]
    omega
/-- the list while it is filled -/
theorem rgC_no {i c : Nat} (hi : i ≤ 100000) (hc : 1 ≤ c) (hc2 : c ≤ 100000) : L2.RgC (i : Int) (i : Int) (c : Int) 0 := by
  have e : Builtin.Range.rangeSize (i : Int) (i : Int) (c : Int) = 0 := by
    unfold Builtin.Range.rangeSize
    rw [if_pos (show (c : Int) > 0 by omega), if_neg (by omega)]
  refine ⟨by omega, by omega, ?_, e⟩
  unfold Builtin.Range.small
  rw [e]
  simp only [Builtin.Range.rangeFitsLong, Bool.and_eq_true, Bool.or_eq_true, decide_eq_true_eq, beq_iff_eq]
  refine ⟨?_, .inl trivial⟩
  repeat' apply And.intro
  all_goals omega
/-- how many places stand behind the first -/
def mS (n s : Nat) : Nat := if s < n then (n - s - 1) / s + 1 else 0
theorem rgC_s {n s : Nat} (h1 : 1 ≤ s) (h2 : s ≤ n) (hn : n ≤ 100000) : L2.RgC (s : Int) (n : Int) (s : Int) (mS n s) := by
  unfold mS
  by_cases h : s < n
  · rw [if_pos h]
    exact rgC_up h hn h1 (by omega)
  · rw [if_neg h]
    have : s = n := by omega
    subst this
    exact rgC_no hn h1 hn
theorem mS_iff {n s i : Nat} (h1 : 1 ≤ s) (h2 : s ≤ n) : i < mS n s ↔ (i + 1) * s < n := by
  unfold mS
  by_cases h : s < n
  · rw [if_pos h, Nat.lt_succ_iff, Nat.le_div_iff_mul_le (by omega), Nat.succ_mul]
    omega
  · rw [if_neg h, Nat.succ_mul]
    have : s = n := by omega
    omega
theorem cnt_sg {l : List Nat} {c : Nat} : ((sg l).countP fun z => eqF z (.str [c])) = l.count c := by
  unfold sg
  rw [List.countP_map, List.count_eq_countP]
  refine List.countP_congr fun x _ => ?_
  show (([x] : List Nat) == [c]) = true ↔ (x == c) = true
  simp
/-- a place is good -/
def good (w : List Nat) (s i : Nat) : Prop := (i * s + s ≤ w.length → (wd w (i * s) s).Perm (wd w 0 s)) ∧ ∀ c, (wd w (i * s) s).count c ≤ (wd w 0 s).count c
theorem wd_end {w : List Nat} {i s : Nat} (h : w.length < i + s) : wd w i s = w.drop i := by
  unfold wd
  exact List.take_of_length_le (by rw [List.length_drop]; omega)
theorem isp_iff {w : List Nat} {s : Nat} (h1 : 1 ≤ s) (h2 : s ≤ w.length) : ISP w s ↔ ∀ i, i < mS w.length s → good w s (i + 1) := by
  have hm := fun i => @mS_iff w.length s i h1 h2
  have hq : w.length / s * s ≤ w.length := Nat.div_mul_le_self _ _
  have hr : w.length < w.length / s * s + s := by
    have := Nat.lt_div_mul_add (a := w.length) (b := s) (by omega)
    exact this
  constructor
  · rintro ⟨a, b⟩ i hi
    have hi' := (hm i).mp hi
    refine ⟨a (i + 1), fun c => ?_⟩
    by_cases e : (i + 1) * s + s ≤ w.length
    · rw [(a (i + 1) e).count_eq]; exact Nat.le_refl _
    · have ei : i + 1 = w.length / s := by
        refine (Nat.div_eq_of_lt_le ?_ ?_).symm
        · omega
        · rw [Nat.succ_mul]; omega
      rw [wd_end (by omega), ei]
      exact b c
  · intro g
    refine ⟨fun j hj => ?_, fun c => ?_⟩
    · cases j with
      | zero => rw [Nat.zero_mul]
      | succ j => exact (g j ((hm j).mpr (by omega))).1 hj
    · unfold rest
      by_cases e : w.length / s * s = w.length
      · rw [e, List.drop_length]; simp
      · have hp : 1 ≤ w.length / s := (Nat.le_div_iff_mul_le (by omega)).mpr (by omega)
        obtain ⟨j, hj⟩ : ∃ j, w.length / s = j + 1 := ⟨w.length / s - 1, by omega⟩
        rw [hj] at e hq hr ⊢
        rw [← wd_end (s := s) (by omega)]
        exact (g j ((hm j).mpr (by omega))).2 c
def S_is_sum_period : SpecD
  | [.str w, .int s], Q, _ => w.length ≤ 300 ∧ okS w ∧ 1 ≤ s ∧ s ≤ (w.length : Int) ∧ ∀ b : Bool, (b = true ↔ ISP w s.toNat) → Q (.bl b)
  | _, _, _ => False
theorem m_is_sum_period : MonoD S_is_sum_period := by
  intro ds Q Q' X X' z y h
  unfold S_is_sum_period at h ⊢
  split at h <;> first | exact h.elim | exact ⟨h.1, h.2.1, h.2.2.1, h.2.2.2.1, (fun h a0 a1 => (z _) (h a0 a1)) h.2.2.2.2⟩
abbrev N_is_sum_period : List Str := ["word", "step", "first", "at", "part", "letter"]
def b_is_sum_period : WS := wSeq (wAsg (wN 2) (wDat (wCF sortedD (wCons (wSl (wVar 0) wNo (wSm (wVar 1))) wNil)))) (wSeq (wFor (wRange3 (wVar 1) (wCB lenD (wCons (wVar 0) wNil)) (wVar 1)) (wN 3) (wSeq (wAsg (wN 4) (wSl (wVar 0) (wSm (wVar 3)) (wSm (wOp2 addD (wVar 3) (wVar 1))))) (wSeq (wIf (wAndT (wIs (wOp2 (gEq false) (wCB lenD (wCons (wVar 4) wNil)) (wVar 1))) (wIs (wOp2 (gEq true) (wDat (wCF sortedD (wCons (wVar 4) wNil))) (wVar 2)))) (wRet (wC (.bl false))) wNext) (wIf (wIs (wCB anyD (wCons (wDat (wLc (wItems (wDat (wSortedSet (wVar 4)))) (wN 5) wYes (wOp2 (gI0 fun i j => .bl (decide (j < i))) (wMt isStr gCountS (wVar 4) (wCons (wVar 5) wNil)) (wMt isLst gCountL (wVar 2) (wCons (wVar 5) wNil))) [5])) wNil))) (wRet (wC (.bl false))) wNext)))) (wRet (wC (.bl true))))
theorem h_is_sum_period : ∀ ds Q Y, ds.length = 2 → S_is_sum_period ds Q Y → b_is_sum_period (startE N_is_sum_period ds) (dRet Q) Y := by
  intro ds Q Y hl h
  unfold S_is_sum_period at h
  split at h <;> try exact h.elim
  rename_i w s
  obtain ⟨h1, o, s1, s2, h⟩ := h
  obtain ⟨s, rfl⟩ := Int.eq_ofNat_of_zero_le (show 0 ≤ s by omega)
  rw [Int.toNat_natCast] at h
  have s1 : 1 ≤ s := by omega
  have s2 : s ≤ w.length := by omega
  have hsz : sizeLine = 16777216 := rfl
  have hz : w.length ≤ sizeLine := by omega
  have c0 : cutD w none (some (s : Int)) = wd w 0 s := by rw [cutD_to (by omega), Int.toNat_natCast]; rfl
  have l0 := @wd_len_le w 0 s
  refine ⟨_, rfl, _, rfl, _, rfl, hz, by rw [c0]; omega, ?_⟩
  rw [c0]
  refine ⟨_, rfl, _, rfl, hz, _, rfl, (s : Int), (w.length : Int), (s : Int), mS w.length s, rfl, rfl, rfl, rgC_s s1 s2 (by omega), ?_⟩
  have is := isp_iff s1 s2
  have hm := fun i => @mS_iff w.length s i s1 s2
  generalize mS w.length s = m at *
  have er : (List.range m).map (fun t : Nat => D.int ((s : Int) + (t : Int) * (s : Int))) = (List.range m).map (fun t : Nat => D.int (((t + 1) * s : Nat) : Int)) := List.map_congr_left fun t _ => by
    rw [Nat.succ_mul, Int.natCast_add, Int.natCast_mul, Int.add_comm]
  rw [er]
  refine for_run (f := fun t : Nat => D.int (((t + 1) * s : Nat) : Int)) (st := fun (_ : Unit) (x : Sl × Sl) => [.dt (.str w), .dt (.int (s : Int)), .dt (.lst (sg (sortN (wd w 0 s)))), x.1, x.2, .non])
    (sb := fun _ x t => [.dt (.str w), .dt (.int (s : Int)), .dt (.lst (sg (sortN (wd w 0 s)))), .dt (.int (((t + 1) * s : Nat) : Int)), x.2, .non])
    (P := fun p r _ => p ++ r = List.range m ∧ ∀ i, i < p.length → good w s (i + 1)) _ (fun a x c Q q => q) (fun p c r _ x D' hP e3 e4 k => ?_) (fun p _ x hP => ?_) () (.non, .non) ⟨rfl, fun i z => by simp at z⟩
  · obtain ⟨hp, hg⟩ := hP
    obtain ⟨rfl, hpl⟩ := rg_at hp
    have hat := (hm p.length).mp hpl
    have cw : cutD w (some (((p.length + 1) * s : Nat) : Int)) (some ((((p.length + 1) * s : Nat) : Int) + (s : Int))) = wd w ((p.length + 1) * s) s := cut_wd rfl rfl
    have stop : ¬ good w s (p.length + 1) → Q (.bl false) := fun z => h false ⟨fun e => absurd e (by decide), fun e => (z (is.mp e p.length hpl)).elim⟩
    have lw := @wd_len_le w ((p.length + 1) * s) s
    have go : good w s (p.length + 1) → D'.nx [.dt (.str w), .dt (.int (s : Int)), .dt (.lst (sg (sortN (wd w 0 s)))), .dt (.int (((p.length + 1) * s : Nat) : Int)), .dt (.str (wd w ((p.length + 1) * s) s)), .non] := fun z => (k () (_, _) ⟨by rw [← hp]; simp, fun i hi => by
      rw [List.length_append, List.length_singleton] at hi
      by_cases e : i < p.length
      · exact hg i e
      · have : i = p.length := by omega
        rw [this]; exact z⟩).1
    have full : (wd w ((p.length + 1) * s) s).length = s ↔ (p.length + 1) * s + s ≤ w.length := by
      constructor
      · intro e
        unfold wd at e
        rw [List.length_take, List.length_drop] at e
        omega
      · exact wd_len
    have ow := wd_ok (i := (p.length + 1) * s) (k := s) o
    generalize hi : (p.length + 1) * s = i at *
    refine ⟨_, rfl, _, rfl, _, rfl, _, rfl, _, rfl, _, rfl, hz, ?_⟩
    rw [cw]
    -- the second test
    have second : (¬ (i + s ≤ w.length) ∨ (wd w i s).Perm (wd w 0 s)) → wIf (wIs (wCB anyD (wCons (wDat (wLc (wItems (wDat (wSortedSet (wVar 4)))) (wN 5) wYes (wOp2 (gI0 fun i j => .bl (decide (j < i))) (wMt isStr gCountS (wVar 4) (wCons (wVar 5) wNil)) (wMt isLst gCountL (wVar 2) (wCons (wVar 5) wNil))) [5])) wNil))) (wRet (wC (.bl false))) wNext
        [.dt (.str w), .dt (.int (s : Int)), .dt (.lst (sg (sortN (wd w 0 s)))), .dt (.int (i : Int)), .dt (.str (wd w i s)), .non] D' Y := fun hor => by
      refine ⟨_, rfl, (wd w i s).map (fun c => [c]), .inr ⟨_, rfl, rfl⟩, by rw [List.length_map]; omega, fun L nd mem pw => ?_⟩
      have hone : ∀ x ∈ L, ∃ c ∈ wd w i s, x = [c] := fun x hx => by
        obtain ⟨c, hc, e⟩ := List.mem_map.mp ((mem x).mp hx)
        exact ⟨c, hc, e.symm⟩
      have lL : L.length ≤ 300 := by
        have := nd_len nd (m := (wd w i s).map fun c => [c]) fun x hx => (mem x).mp hx
        rw [List.length_map] at this
        omega
      refine ⟨by rw [List.length_map]; omega, fun X' => ?_⟩
      refine lc_map (f := D.str) (g := fun x => D.bl (decide ((wd w 0 s).count (x.headD 0) < (wd w i s).count (x.headD 0)))) (fun x hx K hK => ?_) ?_
      · obtain ⟨c, hc, rfl⟩ := hone x hx
        refine ⟨_, rfl, ⟨_, rfl⟩, _, rfl, _, c, rfl, rfl, _, rfl, ⟨_, rfl⟩, _, rfl, _, _, rfl, rfl, rfl, ?_, _, _, rfl, rfl, ?_⟩
        · simp [sg, flatD]
        · rw [cnt_sg, (sortN_perm _).count_eq]
          have : decide ((((wd w i s).count c : Nat) : Int) > (((wd w 0 s).count c : Nat) : Int)) = decide ((wd w 0 s).count c < (wd w i s).count c) := decide_eq_decide.mpr (by omega)
          show K (some (.bl (decide ((((wd w i s).count c : Nat) : Int) > (((wd w 0 s).count c : Nat) : Int)))))
          rw [this]
          exact hK
      · refine anyD_map (p := fun x : List Nat => decide ((wd w 0 s).count (x.headD 0) < (wd w i s).count (x.headD 0))) ⟨_, rfl, ?_⟩
        have hall : (L.any fun x : List Nat => decide ((wd w 0 s).count (x.headD 0) < (wd w i s).count (x.headD 0))) = true ↔ ¬ ∀ c, (wd w i s).count c ≤ (wd w 0 s).count c := by
          rw [List.any_eq_true]
          constructor
          · rintro ⟨x, hx, hd⟩ z
            have := z (x.headD 0)
            have h2 : (wd w 0 s).count (x.headD 0) < (wd w i s).count (x.headD 0) := of_decide_eq_true hd
            omega
          · intro z
            refine Decidable.byContradiction fun y => z fun c => Decidable.byContradiction fun hc => y ?_
            have hpos : 0 < (wd w i s).count c := by omega
            have hmem := List.count_pos_iff.mp hpos
            exact ⟨[c], (mem [c]).mpr (List.mem_map.mpr ⟨c, hmem, rfl⟩), decide_eq_true (show (wd w 0 s).count c < (wd w i s).count c by omega)⟩
        by_cases e : (L.any fun x : List Nat => decide ((wd w 0 s).count (x.headD 0) < (wd w i s).count (x.headD 0))) = true
        · refine itePos e ?_
          show D'.rt (.dt (.bl false))
          rw [e3]
          refine stop fun z => hall.mp e ?_
          have := z.2
          rw [hi] at this
          exact this
        · refine iteNeg e (go ⟨?_, ?_⟩)
          · rw [hi]
            intro z
            rcases hor with y | y
            · exact (y z).elim
            · exact y
          · rw [hi]
            exact Classical.byContradiction fun z => e (hall.mpr z)
    refine ⟨_, rfl, by omega, _, rfl, rfl, rfl, _, rfl, ?_⟩
    rw [if_neg (show ¬ (false = true) by decide), eqD_int]
    by_cases ef : i + s ≤ w.length
    · refine itePos (by rw [full.mpr ef]; simp) ?_
      refine ⟨_, rfl, by omega, _, rfl, sg_ok ow, sg_ok (wd_ok o), _, rfl, ?_⟩
      rw [if_pos rfl, sg_eq]
      by_cases hpm : (wd w i s).Perm (wd w 0 s)
      · exact iteNeg (by simp [hpm]) (second (.inr hpm))
      · refine itePos (by simp [hpm]) ?_
        show D'.rt (.dt (.bl false))
        rw [e3]
        refine stop fun z => hpm ?_
        have := z.1
        rw [hi] at this
        exact this ef
    · refine iteNeg ?_ (iteNeg (by decide) (second (.inl ef)))
      have : (wd w i s).length ≠ s := fun z => ef (full.mp z)
      simp
      omega
  · obtain ⟨hp, hg⟩ := hP
    rw [List.append_nil] at hp
    subst hp
    rw [List.length_range] at hg
    exact h true ⟨fun _ => is.mpr hg, fun _ => rfl⟩
end LK
/-! what the program tells: the least period, told doubles, counts met -/
namespace LK
open PySem PySem.Spec PyProof.Rows L2 DL
def S_least_sum_period : SpecD
  | [d], Q, X => okv d ∧ (if wordD d = true then (if 300 < (strOf d).length then X tooM else ∀ p, PR (strOf d) p → Q (.int (p : Nat))) else X (bad "BadWord"))
  | _, _, _ => False
theorem m_least_sum_period : MonoD S_least_sum_period := by
  intro ds Q Q' X X' z y h
  unfold S_least_sum_period at h ⊢
  split at h <;> first | exact h.elim | exact ⟨h.1, (ite_monoP (ite_monoP (y _) (fun h a0 a1 => (z _) (h a0 a1))) (y _)) h.2⟩
abbrev N_least_sum_period : List Str := ["word", "step"]
def b_least_sum_period : WS := wSeq (wExpr (wCall S_check_word (wCons (wVar 0) wNil))) (wSeq (wIf (wIs (wOp2 (gI0 fun i j => .bl (decide (j < i))) (wCB lenD (wCons (wVar 0) wNil)) (wC (.int 300)))) (wRaise1 "TooMany" "most" (wC (.int 300))) wNext) (wSeq (wFor (wRange2 (wC (.int 1)) (wOp2 addD (wCB lenD (wCons (wVar 0) wNil)) (wC (.int 1)))) (wN 1) (wIf (wIs (wCall S_is_sum_period (wCons (wVar 0) (wCons (wVar 1) wNil)))) (wRet (wVar 1)) wNext)) (wRet (wC (.int 0)))))
theorem h_least_sum_period : ∀ ds Q Y, ds.length = 1 → S_least_sum_period ds Q Y → b_least_sum_period (startE N_least_sum_period ds) (dRet Q) Y := by
  intro ds Q Y hl h
  unfold S_least_sum_period at h
  split at h <;> try exact h.elim
  rename_i d
  obtain ⟨hv, h⟩ := h
  by_cases e1 : wordD d = true
  · rw [if_pos e1] at h
    obtain ⟨w, rfl⟩ := word_str e1
    have o := word_ok e1
    have hz := word_len e1
    have hsz : sizeLine = 16777216 := rfl
    refine ⟨_, rfl, hv, itePos e1 ⟨_, rfl, hz, _, _, rfl, rfl, _, rfl, ?_⟩⟩
    by_cases e2 : 300 < w.length
    · rw [show (strOf (.str w)).length = w.length from rfl, if_pos e2] at h
      exact itePos (decide_eq_true (by omega)) h
    · rw [show (strOf (.str w)).length = w.length from rfl, if_neg e2] at h
      change ∀ r, PR w r → Q (.int (r : Nat)) at h
      refine iteNeg (by rw [decide_eq_true_iff]; omega) ?_
      refine ⟨_, rfl, hz, 1, (w.length : Int) + 1, rfl, rfl, ⟨by omega, by omega, by omega, by omega⟩, ?_⟩
      rw [rg_1]
      refine for_run (f := fun i : Nat => D.int ((i + 1 : Nat) : Int)) (st := fun (_ : Unit) (x : Sl) => [.dt (.str w), x]) (sb := fun _ x i => [.dt (.str w), .dt (.int ((i + 1 : Nat) : Int))])
        (P := fun p r _ => p ++ r = List.range w.length ∧ ∀ s, 1 ≤ s → s < p.length + 1 → ¬ ISP w s) _ (fun a x c Q q => q) (fun p c r _ x D' hP e3 e4 k => ?_) (fun p _ x hP => ?_) () .non ⟨rfl, fun s a b => by simp at b; omega⟩
      · obtain ⟨hp, hn⟩ := hP
        obtain ⟨rfl, hpl⟩ := rg_at hp
        refine ⟨_, rfl, _, rfl, by omega, o.2, by omega, by omega, fun b hb => ⟨_, rfl, ?_⟩⟩
        rw [Int.toNat_natCast] at hb
        by_cases e : ISP w (p.length + 1)
        · rw [hb.mpr e]
          refine itePos rfl ⟨_, rfl, ?_⟩
          rw [e3]
          exact h _ (.inr ⟨by omega, by omega, e, fun s a z => hn s a z⟩)
        · have : ¬ b = true := fun z => e (hb.mp z)
          refine iteNeg this (k () (.dt (.int ((p.length + 1 : Nat) : Int))) ⟨by rw [← hp]; simp, fun s a z => ?_⟩).1
          rw [List.length_append, List.length_singleton] at z
          by_cases z2 : s < p.length + 1
          · exact hn s a z2
          · rw [show s = p.length + 1 by omega]; exact e
      · obtain ⟨hp, hn⟩ := hP
        rw [List.append_nil] at hp
        subst hp
        rw [List.length_range] at hn
        exact h 0 (.inl ⟨rfl, fun s a b => hn s a (by omega)⟩)
  · rw [if_neg e1] at h
    exact ⟨_, rfl, hv, iteNeg e1 h⟩
/-! ### a told double -/
def vrs : D → Prop
  | .tup ds => ds.length ≤ 1000 ∧ ∀ x ∈ ds, isVr x = false
  | d => isVr d = false
theorem vrs_vr {d : D} (h : vrs d) : isVr d = false := by cases d <;> first | exact h | rfl
def isTup (m : Int) : D → Bool
  | .tup ds => decide ((ds.length : Int) = m)
  | _ => false
def S_is_tuple_of : SpecD
  | [d, .int m], Q, _ => vrs d ∧ Q (.bl (isTup m d))
  | _, _, _ => False
theorem m_is_tuple_of : MonoD S_is_tuple_of := by
  intro ds Q Q' X X' z y h
  unfold S_is_tuple_of at h ⊢
  split at h <;> first | exact h.elim | exact ⟨h.1, (z _) h.2⟩
abbrev N_is_tuple_of : List Str := ["thing", "many"]
def b_is_tuple_of : WS := wRet (wAndV (wCB gIsi (wCons (wVar 0) (wCons (wC (.vr (.ty "tuple"))) wNil))) (wOp2 (gEq false) (wCB lenD (wCons (wVar 0) wNil)) (wVar 1)))
theorem h_is_tuple_of : ∀ ds Q Y, ds.length = 2 → S_is_tuple_of ds Q Y → b_is_tuple_of (startE N_is_tuple_of ds) (dRet Q) Y := by
  intro ds Q Y hl h
  unfold S_is_tuple_of at h
  split at h <;> try exact h.elim
  rename_i d m
  obtain ⟨hv, h⟩ := h
  refine ⟨_, rfl, isi_w (vrs_vr hv) (by decide) ⟨_, rfl, ?_⟩⟩
  by_cases e : subTy (tyOf d) "tuple" = true
  · obtain ⟨ds, rfl⟩ : ∃ ds, d = .tup ds := by cases d <;> first | exact ⟨_, rfl⟩ | exact Bool.noConfusion (show false = true from e)
    refine itePos e ⟨_, rfl, _, rfl, rfl, rfl, ?_⟩
    rw [if_neg (by decide), eqD_int]
    exact h
  · have : isTup m d = false := by cases d <;> first | rfl | (exfalso; exact e rfl)
    rw [this] at h
    exact iteNeg e h
theorem isDb_int {w : List Nat} {a h : Int} : isDb w (.tup [.int a, .int h]) = (decide (0 ≤ a ∧ 1 ≤ h ∧ a + 2 * h ≤ (w.length : Int)) && decide ((wd w a.toNat h.toNat).Perm (wd w (a + h).toNat h.toNat))) := rfl
def S_is_double : SpecD
  | [d, t], Q, X => okv d ∧ vrs t ∧ (if wordD d = true then Q (.bl (isDb (strOf d) t)) else X (bad "BadWord"))
  | _, _, _ => False
theorem m_is_double : MonoD S_is_double := by
  intro ds Q Q' X X' z y h
  unfold S_is_double at h ⊢
  split at h <;> first | exact h.elim | exact ⟨h.1, h.2.1, (ite_monoP (z _) (y _)) h.2.2⟩
abbrev N_is_double : List Str := ["word", "thing", "at", "half"]
def b_is_double : WS := wSeq (wExpr (wCall S_check_word (wCons (wVar 0) wNil))) (wSeq (wIf (wOrT (wNotT (wIs (wCall S_is_tuple_of (wCons (wVar 1) (wCons (wC (.int 2)) wNil))))) (wOrT (wNotT (wIs (wCall S_is_within (wCons (wOp2 idxD (wVar 1) (wC (.int 0))) (wCons (wC (.int 0)) (wCons (wCB lenD (wCons (wVar 0) wNil)) wNil)))))) (wNotT (wIs (wCall S_is_within (wCons (wOp2 idxD (wVar 1) (wC (.int 1))) (wCons (wC (.int 1)) (wCons (wCB lenD (wCons (wVar 0) wNil)) wNil)))))))) (wRet (wC (.bl false))) wNext) (wSeq (wAsg (wGTup 2 (wGCons (wN 2) (wGCons (wN 3) wGNil))) (wVar 1)) (wSeq (wIf (wIs (wOp2 (gI0 fun i j => .bl (decide (j < i))) (wOp2 addD (wVar 2) (wOp2 mulD (wC (.int 2)) (wVar 3))) (wCB lenD (wCons (wVar 0) wNil)))) (wRet (wC (.bl false))) wNext) (wRet (wOp2 (gEq false) (wDat (wCF sortedD (wCons (wSl (wVar 0) (wSm (wVar 2)) (wSm (wOp2 addD (wVar 2) (wVar 3)))) wNil))) (wDat (wCF sortedD (wCons (wSl (wVar 0) (wSm (wOp2 addD (wVar 2) (wVar 3))) (wSm (wOp2 addD (wVar 2) (wOp2 mulD (wC (.int 2)) (wVar 3))))) wNil))))))))
theorem h_is_double : ∀ ds Q Y, ds.length = 2 → S_is_double ds Q Y → b_is_double (startE N_is_double ds) (dRet Q) Y := by
  intro ds Q Y hl h
  unfold S_is_double at h
  split at h <;> try exact h.elim
  rename_i d t
  obtain ⟨hv, ht, h⟩ := h
  by_cases e1 : wordD d = true
  · rw [if_pos e1] at h
    obtain ⟨w, rfl⟩ := word_str e1
    have o := word_ok e1
    have hz := word_len e1
    have hsz : sizeLine = 16777216 := rfl
    change Q (.bl (isDb w t)) at h
    refine ⟨_, rfl, hv, itePos e1 ⟨_, rfl, ht, _, rfl, ?_⟩⟩
    by_cases et : isTup 2 t = true
    · rw [et]
      refine iteNeg (by decide) ?_
      obtain ⟨x, y, rfl⟩ : ∃ x y, t = .tup [x, y] := by
        cases t <;> first | exact Bool.noConfusion (show false = true from et) | skip
        rename_i ds
        have : ds.length = 2 := by have := of_decide_eq_true et; omega
        match ds, this with
        | [x, y], _ => exact ⟨x, y, rfl⟩
      have vx : isVr x = false := ht.2 x (by simp)
      have vy : isVr y = false := ht.2 y (by simp)
      refine ⟨_, rfl, x, (atI_nat (j := 0) rfl : atI _ ((0 : Nat) : Int) = _), _, rfl, hz, vx, _, rfl, ?_⟩
      by_cases ex : withinD x 0 (w.length : Int) = true
      · rw [ex]
        refine iteNeg (by decide) ?_
        refine ⟨_, rfl, y, (atI_nat (j := 1) rfl : atI _ ((1 : Nat) : Int) = _), _, rfl, hz, vy, _, rfl, ?_⟩
        obtain ⟨a, rfl, a1, a2⟩ := within_int ex
        by_cases ey : withinD y 1 (w.length : Int) = true
        · rw [ey]
          refine iteNeg (by decide) ?_
          obtain ⟨b, rfl, b1, b2⟩ := within_int ey
          obtain ⟨a, rfl⟩ := Int.eq_ofNat_of_zero_le (show 0 ≤ a by omega)
          obtain ⟨b, rfl⟩ := Int.eq_ofNat_of_zero_le (show 0 ≤ b by omega)
          refine ⟨_, rfl, _, rfl, rfl, _, _, rfl, _, _, rfl, rfl, ?_⟩
          refine ⟨_, rfl, _, rfl, .inl ⟨by omega, by omega⟩, _, rfl, hz, _, _, rfl, rfl, _, rfl, ?_⟩
          by_cases ez : a + 2 * b ≤ w.length
          · refine iteNeg (by rw [decide_eq_true_iff]; omega) ?_
            have w1 : cutD w (some (a : Int)) (some ((a : Int) + (b : Int))) = wd w a b := cut_wd rfl rfl
            have w2 : cutD w (some ((a : Int) + (b : Int))) (some ((a : Int) + 2 * (b : Int))) = wd w (a + b) b := cut_wd (by omega) (by omega)
            have l1 := @wd_len_le w a b
            have l2 := @wd_len_le w (a + b) b
            refine ⟨_, rfl, _, rfl, _, rfl, _, rfl, _, rfl, _, rfl, hz, by rw [w1]; omega, ?_⟩
            refine ⟨_, rfl, _, rfl, _, rfl, _, rfl, _, rfl, _, rfl, .inl ⟨by omega, by omega⟩, _, rfl, hz, by rw [w2]; omega, ?_⟩
            rw [w1, w2]
            refine ⟨sg_ok (wd_ok o.2), sg_ok (wd_ok o.2), ?_⟩
            rw [if_neg (by decide), sg_eq]
            have : isDb w (.tup [.int (a : Int), .int (b : Int)]) = decide ((wd w a b).Perm (wd w (a + b) b)) := by
              rw [isDb_int, decide_eq_true (by omega), Bool.true_and, Int.toNat_natCast, Int.toNat_natCast, show ((a : Int) + (b : Int)).toNat = a + b by omega]
            rw [this] at h
            exact h
          · refine itePos (decide_eq_true (by omega)) ?_
            have : isDb w (.tup [.int (a : Int), .int (b : Int)]) = false := by
              rw [isDb_int, decide_eq_false (by omega), Bool.false_and]
            rw [this] at h
            exact h
        · rw [show withinD y 1 (w.length : Int) = false by simpa using ey]
          refine itePos rfl ?_
          have : isDb w (.tup [.int a, y]) = false := by
            cases y <;> first | rfl | skip
            rename_i b
            rw [isDb_int, decide_eq_false ?_, Bool.false_and]
            rintro ⟨z1, z2, z3⟩
            refine ey ?_
            unfold withinD
            simp
            omega
          rw [this] at h
          exact h
      · rw [show withinD x 0 (w.length : Int) = false by simpa using ex]
        refine itePos rfl ?_
        have : isDb w (.tup [x, y]) = false := by
          cases x <;> first | rfl | skip
          rename_i a
          cases y <;> first | rfl | skip
          rename_i b
          rw [isDb_int, decide_eq_false ?_, Bool.false_and]
          rintro ⟨z1, z2, z3⟩
          refine ex ?_
          unfold withinD
          simp
          omega
        rw [this] at h
        exact h
    · rw [show isTup 2 t = false by simpa using et]
      refine itePos rfl ?_
      have : isDb w t = false := by
        unfold isDb
        split
        · exact (et rfl).elim
        · rfl
      rw [this] at h
      exact h
  · rw [if_neg e1] at h
    exact ⟨_, rfl, hv, iteNeg e1 h⟩
end LK
/-! what the program tells: counts met -/
namespace LK
open PySem PySem.Spec PyProof.Rows L2 DL
def ctsOk : D → Bool
  | .tup ds => decide (1 ≤ ds.length ∧ ds.length ≤ 26) && ds.all (fun x => withinD x 0 2000)
  | _ => false
def natD : D → Nat
  | .int i => i.toNat
  | _ => 0
def natsOf : D → List Nat
  | .tup ds => ds.map natD
  | _ => []
theorem cts_of {t : D} (h : ctsOk t = true) : ∃ cs : List Nat, t = .tup (nts cs) ∧ 1 ≤ cs.length ∧ cs.length ≤ 26 ∧ (∀ c ∈ cs, c ≤ 2000) ∧ natsOf t = cs := by
  unfold ctsOk at h
  split at h
  · rename_i ds
    rw [Bool.and_eq_true, decide_eq_true_iff, List.all_eq_true] at h
    obtain ⟨⟨h1, h2⟩, h3⟩ := h
    refine ⟨ds.map natD, ?_, by rw [List.length_map]; exact h1, by rw [List.length_map]; exact h2, fun c hc => ?_, rfl⟩
    · unfold nts
      rw [List.map_map]
      congr 1
      conv => lhs; rw [← List.map_id ds]
      refine List.map_congr_left fun x hx => ?_
      obtain ⟨i, rfl, i1, i2⟩ := within_int (h3 x hx)
      show D.int i = D.int (i.toNat : Int)
      rw [Int.toNat_of_nonneg i1]
    · obtain ⟨x, hx, rfl⟩ := List.mem_map.mp hc
      obtain ⟨i, rfl, i1, i2⟩ := within_int (h3 x hx)
      show i.toNat ≤ 2000
      omega
  · cases h
def S_counts_met : SpecD
  | [d, t], Q, X => okv d ∧ vrs t ∧ (if wordD d = true then (if ctsOk t = true then ∀ r, CM (strOf d) (natsOf t) r → Q r else X (bad "BadNumber")) else X (bad "BadWord"))
  | _, _, _ => False
theorem m_counts_met : MonoD S_counts_met := by
  intro ds Q Q' X X' z y h
  unfold S_counts_met at h ⊢
  split at h <;> first | exact h.elim | exact ⟨h.1, h.2.1, (ite_monoP (ite_monoP (fun h a0 a1 => (z _) (h a0 a1)) (y _)) (y _)) h.2.2⟩
abbrev N_counts_met : List Str := ["word", "counts", "one", "size", "told", "at", "part", "letter"]
def b_counts_met : WS := wSeq (wExpr (wCall S_check_word (wCons (wVar 0) wNil))) (wSeq (wIf (wOrT (wNotT (wIs (wCB gIsi (wCons (wVar 1) (wCons (wC (.vr (.ty "tuple"))) wNil))))) (wNotT (wIs (wChain (gI0 fun i j => .bl (decide (i ≤ j))) (gI0 fun i j => .bl (decide (i ≤ j))) (wC (.int 1)) (wCB lenD (wCons (wVar 1) wNil)) (wC (.int 26)))))) (wRaise "BadNumber") wNext) (wSeq (wIf (wNotT (wIs (wCB allD (wCons (wDat (wLc (wItems (wVar 1)) (wN 2) wYes (wCall S_is_within (wCons (wVar 2) (wCons (wC (.int 0)) (wCons (wC (.int 2000)) wNil)))) [2])) wNil)))) (wRaise "BadNumber") wNext) (wSeq (wAsg (wN 3) (wCB sumTD (wCons (wVar 1) wNil))) (wSeq (wAsg (wN 4) (wCB tupTD (wCons (wVar 1) wNil))) (wSeq (wFor (wRange1 (wOp2 addD (wOp2 (gI0 fun i j => .int (i - j)) (wCB lenD (wCons (wVar 0) wNil)) (wVar 3)) (wC (.int 1)))) (wN 5) (wSeq (wAsg (wN 6) (wSl (wVar 0) (wSm (wVar 5)) (wSm (wOp2 addD (wVar 5) (wVar 3))))) (wIf (wIs (wOp2 (gEq false) (wTupL (wLc (wItems (wSl (wC (.str [97, 98, 99, 100, 101, 102, 103, 104, 105, 106, 107, 108, 109, 110, 111, 112, 113, 114, 115, 116, 117, 118, 119, 120, 121, 122])) wNo (wSm (wCB lenD (wCons (wVar 1) wNil))))) (wN 7) wYes (wMt isStr gCountS (wVar 6) (wCons (wVar 7) wNil)) [7])) (wVar 4))) (wRet (wVar 5)) wNext))) (wRet (wC .non)))))))
theorem sum_le {cs : List Nat} (h : ∀ c ∈ cs, c ≤ 2000) : cs.sum ≤ cs.length * 2000 := by
  induction cs with
  | nil => simp
  | cons c cs ih =>
    have h1 := h c List.mem_cons_self
    have h2 := ih fun x hx => h x (List.mem_cons_of_mem _ hx)
    rw [List.sum_cons, List.length_cons, Nat.succ_mul]
    omega
theorem sum_i {cs : List Nat} : (cs.map fun n : Nat => (n : Int)).sum = ((cs.sum : Nat) : Int) := by
  induction cs with
  | nil => rfl
  | cons c cs ih => rw [List.map_cons, List.sum_cons, List.sum_cons, ih, Int.natCast_add]
theorem nts_eq {a b : List Nat} : eqD (.tup (nts a)) (.tup (nts b)) = decide (a = b) := by
  have h := eqDs_map (f := fun n : Nat => D.int (n : Int)) (fun a b => by rw [eqD_int, decide_eq_true_iff]; omega) a b
  rw [Bool.eq_iff_iff, decide_eq_true_iff]
  exact h
theorem rg_m {n s : Nat} : rangeD 0 ((n : Int) - (s : Int) + 1) = (List.range (n + 1 - s)).map fun i : Nat => D.int (i : Int) := by
  unfold rangeD
  rw [show ((n : Int) - (s : Int) + 1 - 0).toNat = n + 1 - s by omega]
  exact List.map_congr_left fun i _ => by rw [Int.zero_add]
theorem let_take {m : Nat} : cutD LET none (some (m : Int)) = LET.take m := by rw [cutD_to (by omega), Int.toNat_natCast]
theorem nts_okD {a : List Nat} : okD (.tup (nts a)) = true := nats_ok
theorem h_counts_met : ∀ ds Q Y, ds.length = 2 → S_counts_met ds Q Y → b_counts_met (startE N_counts_met ds) (dRet Q) Y := by
  intro ds Q Y hl h
  unfold S_counts_met at h
  split at h <;> try exact h.elim
  rename_i d t
  obtain ⟨hv, ht, h⟩ := h
  by_cases e1 : wordD d = true
  · rw [if_pos e1] at h
    obtain ⟨w, rfl⟩ := word_str e1
    have o := word_ok e1
    have hz := word_len e1
    have hsz : sizeLine = 16777216 := rfl
    refine ⟨_, rfl, hv, itePos e1 ⟨_, rfl, isi_w (vrs_vr ht) (by decide) ⟨_, rfl, ?_⟩⟩⟩
    by_cases et : ctsOk t = true
    · rw [if_pos et] at h
      obtain ⟨cs, rfl, c1, c2, c3, ec⟩ := cts_of et
      rw [ec] at h
      change ∀ r, CM w cs r → Q r at h
      refine iteNeg (show ¬ (!true) = true by decide) ?_
      have lc : (nts cs).length = cs.length := List.length_map ..
      refine ⟨_, rfl, _, _, rfl, rfl, _, rfl, itePos (decide_eq_true (by rw [lc]; omega)) ⟨_, _, rfl, rfl, _, rfl, iteNeg ?_ ?_⟩⟩
      · rw [decide_eq_true (by rw [lc]; omega)]; decide
      have hs := sum_le c3
      have hs2 : cs.sum ≤ 52000 := by omega
      refine ⟨_, rfl, by rw [lc]; omega, fun X' => ?_⟩
      refine lc_map (f := fun n : Nat => D.int (n : Int)) (g := fun n : Nat => D.bl true) (fun x hx K hK => ?_) ?_
      · refine ⟨_, rfl, rfl, ?_⟩
        have : withinD (.int (x : Int)) 0 2000 = true := by
          have := c3 x hx
          unfold withinD
          simp
          omega
        rw [this]
        exact hK
      refine allD_map (p := fun _ : Nat => true) ⟨_, rfl, iteNeg (by rw [List.all_eq_true.mpr fun _ _ => rfl]; decide) ?_⟩
      refine ⟨_, rfl, cs.map fun n : Nat => (n : Int), by rw [List.map_map]; rfl, ?_⟩
      rw [sum_i]
      refine ⟨_, rfl, nts cs, rfl, ?_⟩
      refine ⟨_, rfl, hz, _, rfl, _, _, rfl, rfl, (w.length : Int) - (cs.sum : Int) + 1, rfl, by omega, by omega, ?_⟩
      rw [rg_m]
      generalize hS : cs.sum = S at *
      refine for_run (f := fun i : Nat => D.int (i : Int)) (st := fun (_ : Unit) (x : Sl × Sl) => [.dt (.str w), .dt (.tup (nts cs)), .non, .dt (.int (S : Int)), .dt (.tup (nts cs)), x.1, x.2, .non])
        (sb := fun _ x i => [.dt (.str w), .dt (.tup (nts cs)), .non, .dt (.int (S : Int)), .dt (.tup (nts cs)), .dt (.int (i : Int)), x.2, .non])
        (P := fun p r _ => p ++ r = List.range (w.length + 1 - S) ∧ ∀ j, j < p.length → cts (wd w j S) cs.length ≠ cs) _ (fun a x c Q q => q) (fun p c r _ x D' hP e3 e4 k => ?_) (fun p _ x hP => ?_) () (.non, .non) ⟨rfl, fun j z => by simp at z⟩
      · obtain ⟨hp, hn⟩ := hP
        obtain ⟨rfl, hpl⟩ := rg_at hp
        have w1 : cutD w (some ((p.length : Nat) : Int)) (some (((p.length : Nat) : Int) + (S : Int))) = wd w p.length S := cut_wd rfl rfl
        refine ⟨_, rfl, _, rfl, _, rfl, _, rfl, _, rfl, _, rfl, hz, ?_⟩
        rw [w1]
        have lt : cutD ([97, 98, 99, 100, 101, 102, 103, 104, 105, 106, 107, 108, 109, 110, 111, 112, 113, 114, 115, 116, 117, 118, 119, 120, 121, 122] : List Nat) none (some (((nts cs).length : Nat) : Int)) = LET.take cs.length := by rw [lc]; exact let_take
        refine ⟨_, rfl, _, rfl, by show 26 ≤ sizeLine; decide, ?_⟩
        rw [lt]
        refine ⟨by rw [List.length_map, List.length_take]; show min _ 26 ≤ _; omega, fun X' => ?_⟩
        refine lc_map (f := fun c : Nat => D.str [c]) (g := fun c : Nat => D.int (((wd w p.length S).count c : Nat) : Int)) (fun c hc K hK => ?_) ?_
        · exact ⟨_, rfl, ⟨_, rfl⟩, _, rfl, _, c, rfl, rfl, hK⟩
        have em : (LET.take cs.length).map (fun c : Nat => D.int (((wd w p.length S).count c : Nat) : Int)) = nts (cts (wd w p.length S) cs.length) := by
          unfold nts cts
          rw [List.map_map]
          rfl
        rw [em]
        refine ⟨_, rfl, nts_okD, nts_okD, _, rfl, ?_⟩
        rw [if_neg (show ¬ (false = true) by decide), nts_eq]
        by_cases e : cts (wd w p.length S) cs.length = cs
        · refine itePos (decide_eq_true e) ⟨_, rfl, ?_⟩
          rw [e3]
          exact h _ (.inr ⟨p.length, by rw [hS]; omega, by rw [hS]; exact e, fun j hj => by rw [hS]; exact hn j hj, rfl⟩)
        · refine iteNeg (by rw [decide_eq_true_iff]; exact e) (k () (.dt (.int (p.length : Int)), .dt (.str (wd w p.length S))) ⟨by rw [← hp]; simp, fun j hj => ?_⟩).1
          rw [List.length_append, List.length_singleton] at hj
          by_cases e2 : j < p.length
          · exact hn j e2
          · rw [show j = p.length by omega]; exact e
      · obtain ⟨hp, hn⟩ := hP
        rw [List.append_nil] at hp
        subst hp
        rw [List.length_range] at hn
        exact h _ (.inl ⟨rfl, fun i hi => by rw [hS] at hi ⊢; exact hn i (by omega)⟩)
    · rw [if_neg et] at h
      by_cases es : subTy (tyOf t) "tuple" = true
      · obtain ⟨ds, rfl⟩ : ∃ ds, t = .tup ds := by cases t <;> first | exact ⟨_, rfl⟩ | exact Bool.noConfusion (show false = true from es)
        refine iteNeg (show ¬ (!true) = true by decide) ?_
        by_cases l1 : 1 ≤ ds.length
        · refine ⟨_, rfl, _, _, rfl, rfl, _, rfl, itePos (decide_eq_true (by omega)) ⟨_, _, rfl, rfl, _, rfl, ?_⟩⟩
          by_cases l2 : ds.length ≤ 26
          · rw [decide_eq_true (by omega)]
            refine iteNeg (by decide) ?_
            refine ⟨_, rfl, by omega, fun X' => ?_⟩
            rw [← List.map_id ds]
            refine lc_map (f := id) (g := fun x => D.bl (withinD x 0 2000)) (fun x hx K hK => ⟨_, rfl, ht.2 x hx, hK⟩) ?_
            refine allD_map (p := fun x => withinD x 0 2000) ⟨_, rfl, itePos ?_ h⟩
            have : ¬ (ds.all fun x => withinD x 0 2000) = true := fun z => et (by
              show (decide (1 ≤ ds.length ∧ ds.length ≤ 26) && ds.all fun x => withinD x 0 2000) = true
              rw [z, decide_eq_true ⟨l1, l2⟩]
              rfl)
            rw [show (ds.all fun x => withinD x 0 2000) = false by simpa using this]
            rfl
          · rw [decide_eq_false (by omega)]
            exact itePos rfl h
        · exact ⟨_, rfl, _, _, rfl, rfl, _, rfl, iteNeg (by rw [decide_eq_true_iff]; omega) ⟨_, rfl, itePos rfl h⟩⟩
      · exact itePos (by simpa using es) h
  · rw [if_neg e1] at h
    exact ⟨_, rfl, hv, iteNeg e1 h⟩
end LK
/-! what the law's own functions tell -/
namespace LK
open PySem PySem.Spec PyProof.Rows L2 DL
def S__law_draw (W : Wd) : SpecD := spDraw W
theorem m__law_draw {W : Wd} : MonoD (S__law_draw W) := spDraw_mono
def S__law_any (W : Wd) : SpecD
  | [h, t], Q, _ => h = hdD W ∧ 1 ≤ (itsOf t).length ∧ (itsOf t).length ≤ sizeLine ∧ ∀ d ∈ itsOf t, Q d
  | _, _, _ => False
theorem m__law_any {W : Wd} : MonoD (S__law_any W) := by
  intro ds Q Q' X X' z y h
  unfold S__law_any at h ⊢
  split at h <;> first | exact h.elim | exact ⟨h.1, h.2.1, h.2.2.1, fun d hd => z _ (h.2.2.2 d hd)⟩
abbrev N__law_any : List Str := ["hand", "some"]
def b__law_any (W : Wd) : WS := wRet (wOp2 idxD (wVar 1) (wCall (S__law_draw W) (wCons (wVar 0) (wCons (wCB lenD (wCons (wVar 1) wNil)) wNil))))
theorem h__law_any {W : Wd} : ∀ ds Q Y, ds.length = 2 → S__law_any W ds Q Y → b__law_any W (startE N__law_any ds) (dRet Q) Y := by
  intro ds Q Y hl h
  unfold S__law_any at h
  split at h <;> try exact h.elim
  rename_i h0 t
  obtain ⟨rfl, h1, h2, h⟩ := h
  have ix : ∀ {α : Type} {xs : List α} {r : Int}, 0 ≤ r → r < (xs.length : Int) → ∃ x, atI xs r = some x ∧ x ∈ xs := fun {α xs r} a b => by
    obtain ⟨j, rfl⟩ := Int.eq_ofNat_of_zero_le a
    have hj : j < xs.length := by omega
    exact ⟨xs[j], atI_nat (List.getElem?_eq_getElem hj), List.getElem_mem hj⟩
  have hsz : sizeLine = 16777216 := rfl
  cases t with
  | lst xs =>
    change 1 ≤ xs.length at h1
    change xs.length ≤ sizeLine at h2
    refine ⟨_, rfl, _, rfl, _, rfl, (xs.length : Int), rfl, by omega, by omega, fun r a b => ?_⟩
    obtain ⟨x, e, hx⟩ := ix a b
    exact ⟨x, e, h x hx⟩
  | tup xs =>
    change 1 ≤ xs.length at h1
    change xs.length ≤ sizeLine at h2
    refine ⟨_, rfl, _, rfl, _, rfl, (xs.length : Int), rfl, by omega, by omega, fun r a b => ?_⟩
    obtain ⟨x, e, hx⟩ := ix a b
    exact ⟨x, e, h x hx⟩
  | str s =>
    change 1 ≤ (s.map fun c => D.str [c]).length at h1
    change (s.map fun c => D.str [c]).length ≤ sizeLine at h2
    rw [List.length_map] at h1 h2
    refine ⟨_, rfl, _, rfl, _, rfl, h2, (s.length : Int), rfl, by omega, by omega, fun r a b => ⟨h2, ?_⟩⟩
    obtain ⟨x, e, hx⟩ := ix a b
    exact ⟨x, e, h (.str [x]) (List.mem_map.mpr ⟨x, hx, rfl⟩)⟩
  | _ => change 1 ≤ 0 at h1; omega
/-! ### alike, kind by kind -/
def okI : Nat → D → Prop
  | _ + 1, .non => True
  | _ + 1, .bl _ => True
  | _ + 1, .int _ => True
  | _ + 1, .str s => okS s
  | j + 1, .tup ds => ds.length ≤ sizeLine ∧ ∀ x ∈ ds, okI j x
  | j + 1, .lst ds => ds.length ≤ sizeLine ∧ ∀ x ∈ ds, okI j x
  | _, _ => False
def S_isR : Nat → SpecD
  | 0 => S_none
  | j + 1 => fun ds Q _ => ∃ a, ds = [a, a] ∧ okI (j + 1) a ∧ Q (.bl true)
abbrev S__law_is : SpecD := S_isR 4
theorem m_isR : ∀ j, MonoD (S_isR j)
  | 0 => fun ds Q Q' X X' z y h => h
  | j + 1 => fun ds Q Q' X X' z y ⟨a, e, h, q⟩ => ⟨a, e, h, z _ q⟩
theorem m__law_is : MonoD S__law_is := m_isR 4
abbrev N__law_is : List Str := ["said", "due", "one", "other"]
def b__law_is (SR : SpecD) : WS := wSeq (wIf (wIs (wIsiT (wVar 1) ["tuple", "list"])) (wSeq (wIf (wOrT (wIs (wOp2 (gEq true) (wCB gIsi (wCons (wVar 0) (wCons (wC (.vr (.ty "tuple"))) wNil))) (wCB gIsi (wCons (wVar 1) (wCons (wC (.vr (.ty "tuple"))) wNil))))) (wIs (wOp2 (gEq true) (wCB gIsi (wCons (wVar 0) (wCons (wC (.vr (.ty "list"))) wNil))) (wCB gIsi (wCons (wVar 1) (wCons (wC (.vr (.ty "list"))) wNil)))))) (wRet (wC (.bl false))) wNext) (wRet (wAndV (wOp2 (gEq false) (wCB lenD (wCons (wVar 0) wNil)) (wCB lenD (wCons (wVar 1) wNil))) (wCB allD (wCons (wDat (wLc (wZip (wVar 0) (wVar 1)) (wGTup 2 (wGCons (wN 2) (wGCons (wN 3) wGNil))) wYes (wCall SR (wCons (wVar 2) (wCons (wVar 3) wNil))) [2, 3])) wNil))))) wNext) (wSeq (wIf (wOrT (wIs (wOp2 (gIsN false) (wVar 1) (wC .non))) (wIs (wOp2 (gIsN false) (wVar 0) (wC .non)))) (wRet (wAndV (wOp2 (gIsN false) (wVar 1) (wC .non)) (wOp2 (gIsN false) (wVar 0) (wC .non)))) wNext) (wSeq (wIf (wOrT (wIs (wOp2 (gEq true) (wCB gIsi (wCons (wVar 0) (wCons (wC (.vr (.ty "bool"))) wNil))) (wCB gIsi (wCons (wVar 1) (wCons (wC (.vr (.ty "bool"))) wNil))))) (wIs (wOp2 (gEq true) (wCB gIsi (wCons (wVar 0) (wCons (wC (.vr (.ty "int"))) wNil))) (wCB gIsi (wCons (wVar 1) (wCons (wC (.vr (.ty "int"))) wNil)))))) (wRet (wC (.bl false))) wNext) (wRet (wAndV (wOp2 (gEq false) (wCB gIsi (wCons (wVar 0) (wCons (wC (.vr (.ty "str"))) wNil))) (wCB gIsi (wCons (wVar 1) (wCons (wC (.vr (.ty "str"))) wNil)))) (wOp2 (gEq false) (wVar 0) (wVar 1))))))
theorem zip_self {xs : List D} : zipD xs xs = xs.map fun d => D.tup [d, d] := by
  unfold zipD
  induction xs with
  | nil => rfl
  | cons x xs ih => rw [List.zip_cons_cons, List.map_cons, List.map_cons, ih]
theorem h_isR (j : Nat) : ∀ ds Q Y, ds.length = 2 → S_isR (j + 1) ds Q Y → b__law_is (S_isR j) (startE N__law_is ds) (dRet Q) Y := by
  rintro ds Q Y hl ⟨d, rfl, h, q⟩
  have seq : ∀ {xs : List D} {tp : Bool} {d : D}, (d = .tup xs ∨ d = .lst xs) → xs.length ≤ sizeLine → (∀ x ∈ xs, okI j x) → b__law_is (S_isR j) (startE N__law_is [d, d]) (dRet Q) Y := by
    intro xs tp d hd h1 h2
    have hv : isVr d = false := by rcases hd with rfl | rfl <;> rfl
    have hit : ∀ Q, Q xs → itemsD d Q := by rcases hd with rfl | rfl <;> exact fun Q h => h
    have hlen : ∀ Q, Q (.int xs.length) → lenD [d] Q := by rcases hd with rfl | rfl <;> exact fun Q h => h
    refine ⟨_, rfl, hv, by decide, _, rfl, itePos (by rcases hd with rfl | rfl <;> rfl) ?_⟩
    refine ⟨_, rfl, isi_w hv (by decide) ⟨_, rfl, isi_w hv (by decide) ⟨rfl, rfl, _, rfl, iteNeg (by rw [if_pos rfl, eqD_bl]; simp) ?_⟩⟩⟩
    refine ⟨_, rfl, isi_w hv (by decide) ⟨_, rfl, isi_w hv (by decide) ⟨rfl, rfl, _, rfl, iteNeg (by rw [if_pos rfl, eqD_bl]; simp) ?_⟩⟩⟩
    refine ⟨_, rfl, hlen _ ⟨_, rfl, hlen _ ⟨rfl, rfl, _, rfl, itePos (by rw [if_neg (by decide), eqD_int]; simp) ?_⟩⟩⟩
    refine ⟨_, rfl, _, rfl, hit _ (hit _ ?_)⟩
    rw [zip_self]
    refine ⟨by rw [List.length_map]; exact h1, fun X' => ?_⟩
    refine lc_map (f := fun d => D.tup [d, d]) (g := fun d => D.bl true) (fun x hx K hK => ?_) ?_
    · refine ⟨_, rfl, rfl, _, _, rfl, _, _, rfl, rfl, ⟨_, rfl, _, rfl, ?_⟩⟩
      have := h2 x hx
      cases j with
      | zero => unfold okI at this; exact this.elim
      | succ j => exact ⟨x, rfl, this, hK⟩
    · simp only [wNil]
      refine allD_map (p := fun _ : D => true) ?_
      rw [List.all_eq_true.mpr fun _ _ => rfl]
      exact q
  have leaf : ∀ {d : D}, isVr d = false → (["tuple", "list"].any fun n => subTy (tyOf d) n) = false → DL.isNon d = false → okD d = true → eqD d d = true → b__law_is (S_isR j) (startE N__law_is [d, d]) (dRet Q) Y := by
    intro d hv h1 h2 h3 h4
    refine ⟨_, rfl, hv, by decide, _, rfl, iteNeg (by rw [h1]; decide) ?_⟩
    refine ⟨_, rfl, rfl, _, rfl, iteNeg (by rw [if_neg (by decide), h2]; decide) ?_⟩
    refine ⟨_, rfl, rfl, _, rfl, iteNeg (by rw [if_neg (by decide), h2]; decide) ?_⟩
    refine ⟨_, rfl, isi_w hv (by decide) ⟨_, rfl, isi_w hv (by decide) ⟨rfl, rfl, _, rfl, iteNeg (by rw [if_pos rfl, eqD_bl]; simp) ?_⟩⟩⟩
    refine ⟨_, rfl, isi_w hv (by decide) ⟨_, rfl, isi_w hv (by decide) ⟨rfl, rfl, _, rfl, iteNeg (by rw [if_pos rfl, eqD_bl]; simp) ?_⟩⟩⟩
    refine ⟨_, rfl, isi_w hv (by decide) ⟨_, rfl, isi_w hv (by decide) ⟨rfl, rfl, _, rfl, itePos (by rw [if_neg (by decide), eqD_bl]; simp) ?_⟩⟩⟩
    refine ⟨_, rfl, _, rfl, h3, h3, ?_⟩
    rw [if_neg (by decide), h4]
    exact q
  cases d with
  | tup xs => exact seq (tp := true) (.inl rfl) h.1 h.2
  | lst xs => exact seq (tp := true) (.inr rfl) h.1 h.2
  | non =>
    refine ⟨_, rfl, rfl, by decide, _, rfl, iteNeg (show ¬ false = true by decide) ?_⟩
    refine ⟨_, rfl, rfl, _, rfl, itePos rfl ?_⟩
    exact ⟨_, rfl, rfl, _, rfl, itePos rfl ⟨_, rfl, rfl, q⟩⟩
  | bl b => exact leaf rfl rfl rfl rfl (by rw [eqD_bl]; simp)
  | int b => exact leaf rfl rfl rfl rfl (by rw [eqD_int]; simp)
  | str b => exact leaf rfl rfl rfl (ok_str h) (by rw [eqD_str]; simp)
  | vr b => exact h.elim
  | dct a b => exact h.elim
def S__law_some (W : Wd) : SpecD
  | [h, .str t, .int n], Q, _ => h = hdD W ∧ 1 ≤ t.length ∧ t.length ≤ 1000 ∧ 0 ≤ n ∧ n ≤ 2000 ∧ ∀ s : List Nat, s.length = n.toNat → (∀ c ∈ s, c ∈ t) → Q (.str s)
  | _, _, _ => False
theorem m__law_some {W : Wd} : MonoD (S__law_some W) := by
  intro ds Q Q' X X' z y h
  unfold S__law_some at h ⊢
  split at h <;> first | exact h.elim | exact ⟨h.1, h.2.1, h.2.2.1, h.2.2.2.1, h.2.2.2.2.1, (fun h a0 a1 a2 => (z _) (h a0 a1 a2)) h.2.2.2.2.2⟩
abbrev N__law_some : List Str := ["hand", "letters", "length", "at"]
def b__law_some (W : Wd) : WS := wRet (wMt isStr gJoin (wC (.str [])) (wCons (wDat (wLc (wRange1 (wVar 2)) (wN 3) wYes (wCall (S__law_any W) (wCons (wVar 0) (wCons (wVar 1) wNil))) [3])) wNil))
theorem h__law_some {W : Wd} : ∀ ds Q Y, ds.length = 3 → S__law_some W ds Q Y → b__law_some W (startE N__law_some ds) (dRet Q) Y := by
  intro ds Q Y hl h
  unfold S__law_some at h
  split at h <;> try exact h.elim
  rename_i h0 t n
  obtain ⟨rfl, h1, h2, h3, h4, h⟩ := h
  refine ⟨⟨_, rfl⟩, _, rfl, n, rfl, by omega, by omega, ?_, fun X' => ?_⟩
  · rw [rangeD_z, List.length_map, List.length_range]
    exact le_line (show _ ≤ 2000 by omega) (by decide)
  · rw [rangeD_z]
    refine lc_dem (f := fun i : Nat => D.int (i : Int)) (P := fun y => ∃ c, y = .str [c] ∧ c ∈ t) (fun i hi K hK => ?_) (fun ys hys hP => ?_)
    · refine ⟨_, rfl, _, rfl, rfl, ?_, ?_, fun d hd => ?_⟩
      · show 1 ≤ (t.map fun c => D.str [c]).length
        rw [List.length_map]; exact h1
      · show (t.map fun c => D.str [c]).length ≤ sizeLine
        rw [List.length_map]; exact le_line h2 (by decide)
      · obtain ⟨c, hc, rfl⟩ := List.mem_map.mp (show d ∈ t.map fun c => D.str [c] from hd)
        exact hK _ ⟨c, rfl, hc⟩
    · obtain ⟨w, rfl, hw⟩ := chars_of ys hP
      rw [List.length_map, List.length_range] at hys
      refine gJoin_1 (f := fun c => c) (by omega) ?_
      rw [List.map_id']
      exact h w hys hw
def S__law_deep (W : Wd) : SpecD
  | [h], Q, _ => h = hdD W ∧ ∀ d, deepOk d → Q d
  | _, _, _ => False
theorem m__law_deep {W : Wd} : MonoD (S__law_deep W) := by
  intro ds Q Q' X X' z y h
  unfold S__law_deep at h ⊢
  split at h <;> first | exact h.elim | exact ⟨h.1, fun d hd => z _ (h.2 d hd)⟩
abbrev N__law_deep : List Str := ["hand", "found", "turn"]
def b__law_deep (W : Wd) : WS := wSeq (wAsg (wN 1) (wCall (S__law_any W) (wCons (wVar 0) (wCons (wDat (wLst (wCons (wC .non) (wCons (wC (.str [48])) (wCons (wC (.bl true)) wNil))))) wNil)))) (wSeq (wFor (wRange1 (wOp2 addD (wC (.int 1)) (wCall (S__law_draw W) (wCons (wVar 0) (wCons (wC (.int 29)) wNil))))) (wN 2) (wAsg (wN 1) (wOp2 idxD (wDat (wLst (wCons (wTup (wCons (wVar 1) wNil)) (wCons (wDat (wLst (wCons (wVar 1) wNil))) (wCons (wDisp1 (.inl 0) (wVar 1)) wNil))))) (wCall (S__law_draw W) (wCons (wVar 0) (wCons (wC (.int 3)) wNil)))))) (wRet (wVar 1)))
theorem h__law_deep {W : Wd} : ∀ ds Q Y, ds.length = 1 → S__law_deep W ds Q Y → b__law_deep W (startE N__law_deep ds) (dRet Q) Y := by
  intro ds Q Y hl h
  unfold S__law_deep at h
  split at h <;> try exact h.elim
  obtain ⟨rfl, h⟩ := h
  refine ⟨_, rfl, le_d rfl, rfl, by decide, by decide, fun d0 hd0 => ?_⟩
  have v0 : isVr d0 = false := by
    have : d0 = .non ∨ d0 = .str [48] ∨ d0 = .bl true := by simpa [itsOf] using hd0
    rcases this with rfl | rfl | rfl <;> rfl
  refine ⟨_, rfl, 29, rfl, by decide, by decide, fun r r1 r2 => ⟨1 + r, rfl, by omega, by omega, ?_⟩⟩
  rw [rangeD_z]
  refine for_run (f := fun i : Nat => D.int (i : Int)) (st := fun (a : D) (x : Sl) => [.dt (hdD W), .dt a, x]) (sb := fun a x c => [.dt (hdD W), .dt a, .dt (.int (c : Int))])
    (P := fun p r2 a => p ++ r2 = List.range (1 + r).toNat ∧ isVr a = false ∧ (p ≠ [] → deepOk a)) (List.range (1 + r).toNat) (fun a x c Q q => q) (fun p c r2 a x D' hP e3 e4 k => ?_) (fun p a x hP => ?_) d0 .non ⟨rfl, v0, fun z => (z rfl).elim⟩
  · obtain ⟨a1, a2, a3⟩ := hP
    refine ⟨_, rfl, le_d rfl, _, rfl, le_d rfl, _, rfl, le_d rfl, _, rfl, 3, rfl, by decide, by decide, fun i i1 i2 => ?_⟩
    have nx : ∀ d, isVr d = false → deepOk d → D'.nx [.dt (hdD W), .dt d, .dt (.int (c : Int))] := fun d h1 h2 => (k d (.dt (.int (c : Int))) ⟨by rw [← a1]; simp, h1, fun _ => h2⟩).1
    rcases (by omega : i = 0 ∨ i = 1 ∨ i = 2) with rfl | rfl | rfl
    · exact ⟨.tup [a], (atI_nat (j := 0) rfl : atI _ ((0 : Nat) : Int) = _), nx (.tup [a]) rfl ⟨Nat.le_refl 1, fun x hx => by simp at hx; rw [hx]; exact a2⟩⟩
    · exact ⟨.lst [a], (atI_nat (j := 1) rfl : atI _ ((1 : Nat) : Int) = _), nx (.lst [a]) rfl trivial⟩
    · exact ⟨.dct [.inl 0] [a], (atI_nat (j := 2) rfl : atI _ ((2 : Nat) : Int) = _), nx (.dct [.inl 0] [a]) rfl trivial⟩
  · obtain ⟨a1, a2, a3⟩ := hP
    rw [List.append_nil] at a1
    exact ⟨_, rfl, h a (a3 fun z => by
      have := congrArg List.length a1
      rw [z, List.length_range] at this
      simp at this
      omega)⟩
def S__law_word (W : Wd) : SpecD
  | [h, .str t, .int m], Q, _ => h = hdD W ∧ 1 ≤ t.length ∧ t.length ≤ 100 ∧ 0 ≤ m ∧ m ≤ 200 ∧ ∀ s : List Nat, s.length ≤ m.toNat → (∀ c ∈ s, c ∈ t) → Q (.str s)
  | _, _, _ => False
theorem m__law_word {W : Wd} : MonoD (S__law_word W) := by
  intro ds Q Q' X X' z y h
  unfold S__law_word at h ⊢
  split at h <;> first | exact h.elim | exact ⟨h.1, h.2.1, h.2.2.1, h.2.2.2.1, h.2.2.2.2.1, (fun h a0 a1 a2 => (z _) (h a0 a1 a2)) h.2.2.2.2.2⟩
abbrev N__law_word : List Str := ["hand", "letters", "most", "kind", "length", "part", "one", "other"]
def b__law_word (W : Wd) : WS := wSeq (wPar 3 4 (wMD (wCall (S__law_draw W) (wCons (wVar 0) (wCons (wC (.int 8)) wNil))) (wMD (wCall (S__law_draw W) (wCons (wVar 0) (wCons (wOp2 addD (wVar 2) (wC (.int 1))) wNil))) wMNil))) (wSeq (wIf (wIs (wOp2 (gI0 fun i j => .bl (decide (i < j))) (wVar 3) (wC (.int 3)))) (wRet (wCall (S__law_some W) (wCons (wVar 0) (wCons (wVar 1) (wCons (wVar 4) wNil))))) wNext) (wSeq (wIf (wIs (wOp2 (gI0 fun i j => .bl (decide (i < j))) (wVar 3) (wC (.int 6)))) (wSeq (wAsg (wN 5) (wCall (S__law_some W) (wCons (wVar 0) (wCons (wVar 1) (wCons (wOp2 addD (wC (.int 1)) (wCall (S__law_draw W) (wCons (wVar 0) (wCons (wCall (S__law_any W) (wCons (wVar 0) (wCons (wDat (wLst (wCons (wC (.int 2)) (wCons (wC (.int 4)) (wCons (wC (.int 9)) wNil))))) wNil))) wNil)))) wNil))))) (wRet (wSl (wOp2 mulD (wVar 5) (wOp2 addD (wOp2 (gI CDivN fun i j => .int (i.fdiv j)) (wVar 4) (wCB lenD (wCons (wVar 5) wNil))) (wC (.int 1)))) wNo (wSm (wVar 4))))) wNext) (wSeq (wIf (wIs (wOp2 (gEq false) (wVar 3) (wC (.int 6)))) (wSeq (wPar 6 7 (wMD (wSl (wVar 1) wNo (wSm (wC (.int 1)))) (wMD (wOp2 addD (wSl (wVar 1) wNo (wSm (wC (.int 1)))) (wSl (wVar 1) (wSm (wC (.int 1))) (wSm (wC (.int 2))))) wMNil))) (wSeq (wWhile (wIs (wOp2 (gI0 fun i j => .bl (decide (i < j))) (wCB lenD (wCons (wVar 7) wNil)) (wVar 4))) (wPar 6 7 (wMD (wVar 7) (wMD (wOp2 addD (wVar 7) (wVar 6)) wMNil)))) (wRet (wSl (wVar 7) wNo (wSm (wVar 4)))))) wNext) (wRet (wOp2 mulD (wCall (S__law_any W) (wCons (wVar 0) (wCons (wVar 1) wNil))) (wVar 4))))))
theorem rep_in {p t : List Nat} {k : Nat} (hp : ∀ c ∈ p, c ∈ t) : ∀ c ∈ (List.replicate k p).flatten, c ∈ t := fun c hc => by
  obtain ⟨l, hl, hcl⟩ := List.mem_flatten.mp hc
  rw [(List.mem_replicate.mp hl).2] at hcl
  exact hp c hcl
theorem h__law_word {W : Wd} : ∀ ds Q Y, ds.length = 3 → S__law_word W ds Q Y → b__law_word W (startE N__law_word ds) (dRet Q) Y := by
  intro ds Q Y hl h
  unfold S__law_word at h
  split at h <;> try exact h.elim
  rename_i h0 t m
  obtain ⟨rfl, h1, h2, h3, h4, h⟩ := h
  have hsz : sizeLine = 16777216 := rfl
  refine ⟨_, rfl, 8, rfl, by decide, by decide, fun kd k1 k2 => ?_⟩
  refine ⟨_, rfl, _, rfl, m + 1, rfl, by omega, by omega, fun n n1 n2 => ?_⟩
  refine ⟨_, _, rfl, by decide, ?_⟩
  refine ⟨_, rfl, _, _, rfl, rfl, _, rfl, ?_⟩
  by_cases e1 : kd < 3
  · exact itePos (decide_eq_true e1) ⟨_, rfl, _, rfl, _, rfl, rfl, h1, by omega, n1, by omega, fun s a b => h s (by omega) b⟩
  refine iteNeg (by rw [decide_eq_true_iff]; exact e1) ?_
  refine ⟨_, rfl, _, _, rfl, rfl, _, rfl, ?_⟩
  by_cases e2 : kd < 6
  · refine itePos (decide_eq_true e2) ?_
    refine ⟨_, rfl, _, rfl, _, rfl, _, rfl, le_d rfl, rfl, by decide, by decide, fun d hd => ?_⟩
    have hd' : ∃ v : Int, d = .int v ∧ 1 ≤ v ∧ v ≤ 9 := by
      have : d = .int 2 ∨ d = .int 4 ∨ d = .int 9 := by simpa [itsOf] using hd
      rcases this with rfl | rfl | rfl <;> exact ⟨_, rfl, by decide, by decide⟩
    obtain ⟨v, rfl, v1, v2⟩ := hd'
    refine ⟨v, rfl, v1, by omega, fun r r1 r2 => ?_⟩
    refine ⟨rfl, h1, by omega, by omega, by omega, fun p hp hc => ?_⟩
    have hpl : 1 ≤ p.length := by omega
    have hpl2 : p.length ≤ 9 := by omega
    obtain ⟨n, rfl⟩ := Int.eq_ofNat_of_zero_le n1
    have hdiv : ((n : Int)).fdiv (p.length : Int) = ((n / p.length : Nat) : Int) := by rw [Int.fdiv_eq_ediv_of_nonneg _ (by omega)]; rfl
    refine ⟨_, rfl, _, rfl, _, rfl, by omega, _, _, rfl, rfl, ⟨by omega, by omega⟩, ?_⟩
    dsimp only
    rw [hdiv]
    have hk : n / p.length ≤ n := Nat.div_le_self _ _
    clear hdiv
    generalize n / p.length = k at *
    have hq : ((k : Int) + 1).toNat = k + 1 := by omega
    have hm : p.length * (k + 1) ≤ 9 * 201 := Nat.mul_le_mul hpl2 (by omega)
    refine ⟨by omega, by omega, ?_, _, rfl, _, rfl, ?_, ?_⟩
    · rw [hq]; omega
    · rw [hq, List.length_flatten, List.map_replicate, List.sum_replicate_nat, Nat.mul_comm]; omega
    · rw [cutD_to (by omega), Int.toNat_natCast]
      refine h _ (by rw [List.length_take]; omega) fun c hcc => ?_
      exact rep_in hc c (List.mem_of_mem_take hcc)
  refine iteNeg (by rw [decide_eq_true_iff]; exact e2) ?_
  refine ⟨_, rfl, rfl, rfl, _, rfl, ?_⟩
  rw [if_neg (by decide), eqD_int]
  by_cases e3 : kd = 6
  · refine itePos (decide_eq_true e3) ?_
    have c1 : cutD t none (some (1 : Int)) = t.take 1 := by rw [cutD_to (by decide)]; rfl
    have c2 : cutD t (some (1 : Int)) (some (2 : Int)) = (t.drop 1).take 1 := by rw [cutD_int (by decide) (by decide)]; rfl
    have n2' : n ≤ 200 := by omega
    refine ⟨_, rfl, _, rfl, by omega, _, rfl, _, rfl, by omega, _, rfl, _, rfl, _, rfl, by omega, ?_⟩
    rw [c1, c2]
    have l1 : (t.take 1).length = 1 := by rw [List.length_take]; omega
    have l2 : ((t.drop 1).take 1).length ≤ 1 := by rw [List.length_take]; omega
    refine ⟨by omega, _, _, rfl, by decide, ?_⟩
    refine ⟨fun M e => ∃ a b : List Nat, e = [.dt (hdD W), .dt (.str t), .dt (.int m), .dt (.int kd), .dt (.int n), .non, .dt (.str a), .dt (.str b)] ∧ (∀ c ∈ a, c ∈ t) ∧ (∀ c ∈ b, c ∈ t) ∧ 1 ≤ a.length ∧ a.length ≤ b.length ∧ b.length ≤ 402 ∧ M = n.toNat - b.length,
      ⟨_, t.take 1, t.take 1 ++ (t.drop 1).take 1, rfl, fun c hc => List.mem_of_mem_take hc, fun c hc => ?_, by omega, by rw [List.length_append]; omega, by rw [List.length_append]; omega, rfl⟩, ?_⟩
    · rcases List.mem_append.mp hc with z | z
      · exact List.mem_of_mem_take z
      · exact List.mem_of_mem_drop (List.mem_of_mem_take z)
    rintro M e ⟨a, b, rfl, ha, hb, a1, a2, a3, rfl⟩
    refine ⟨_, rfl, by omega, _, rfl, _, _, rfl, rfl, _, rfl, ?_⟩
    by_cases e4 : (b.length : Int) < n
    · refine itePos (decide_eq_true e4) ?_
      refine ⟨_, rfl, _, rfl, _, rfl, by omega, _, _, rfl, by decide, ?_⟩
      refine ⟨n.toNat - (b ++ a).length, by rw [List.length_append]; omega, b, b ++ a, rfl, hb, fun c hc => (List.mem_append.mp hc).elim (hb c) (ha c), by omega, by rw [List.length_append]; omega, by rw [List.length_append]; omega, rfl⟩
    · refine iteNeg (by rw [decide_eq_true_iff]; exact e4) ?_
      refine ⟨_, rfl, _, rfl, _, rfl, by omega, ?_⟩
      rw [cutD_to n1]
      exact h _ (by rw [List.length_take]; omega) fun c hc => hb c (List.mem_of_mem_take hc)
  · refine iteNeg (by rw [decide_eq_true_iff]; exact e3) ?_
    refine ⟨_, rfl, _, rfl, rfl, ?_, ?_, fun d hd => ?_⟩
    · show 1 ≤ (t.map fun c => D.str [c]).length
      rw [List.length_map]; exact h1
    · show (t.map fun c => D.str [c]).length ≤ sizeLine
      rw [List.length_map]; omega
    obtain ⟨c, hc, rfl⟩ := List.mem_map.mp (show d ∈ t.map fun c => D.str [c] from hd)
    refine ⟨_, rfl, ?_⟩
    refine ⟨by omega, by omega, by show 1 * n.toNat ≤ sizeLine; omega, ?_⟩
    refine h _ ?_ (rep_in fun x hx => by rw [List.mem_singleton.mp hx]; exact hc)
    rw [List.length_flatten, List.map_replicate, List.sum_replicate_nat]
    show n.toNat * 1 ≤ _
    omega
theorem atI_i {α : Type} {xs : List α} {i : Nat} (h : i < xs.length) : atI xs (i : Int) = some xs[i] := atI_nat (List.getElem?_eq_getElem h)
/-! ### a drawn order -/
abbrev sgs (l : List Nat) : List D := l.map fun c => D.str [c]
theorem sgs_erase {l : List Nat} {i : Nat} : (sgs l).eraseIdx i = sgs (l.eraseIdx i) := map_erase _ _ _
theorem get_perm : ∀ {l : List Nat} {i : Nat} (h : i < l.length), ([l[i]] ++ l.eraseIdx i).Perm l
  | x :: l, 0, h => .refl _
  | x :: l, i + 1, h => by
    have h' : i < l.length := by simpa using h
    have ih := get_perm h'
    show (l[i] :: x :: l.eraseIdx i).Perm (x :: l)
    exact (List.Perm.swap x l[i] _).trans (ih.cons x)
def S__law_shuffled (W : Wd) : SpecD
  | [h, .str w], Q, _ => h = hdD W ∧ w.length ≤ 2000 ∧ ∀ s : List Nat, s.Perm w → Q (.lst (sgs s))
  | _, _, _ => False
theorem m__law_shuffled {W : Wd} : MonoD (S__law_shuffled W) := by
  intro ds Q Q' X X' z y h
  unfold S__law_shuffled at h ⊢
  split at h <;> first | exact h.elim | exact ⟨h.1, h.2.1, (fun h a0 a1 => (z _) (h a0 a1)) h.2.2⟩
abbrev N__law_shuffled : List Str := ["hand", "some", "rest", "found"]
def b__law_shuffled (W : Wd) : WS := wSeq (wPar 2 3 (wMF (wCF listA (wCons (wVar 1) wNil)) (wMF (wLst wNil) wMNil))) (wSeq (wWhile (wIs (wBor 2 (wOp2 (gI0 fun i j => .bl (decide (j < i))) (wCB lenD (wCons (wVar 2) wNil)) (wC (.int 0))))) (wAppX 3 (wPopAt 2 (wCall (S__law_draw W) (wCons (wVar 0) (wCons (wBor 2 (wCB lenD (wCons (wVar 2) wNil))) wNil)))))) (wRetOwn 3))
theorem h__law_shuffled {W : Wd} : ∀ ds Q Y, ds.length = 2 → S__law_shuffled W ds Q Y → b__law_shuffled W (startE N__law_shuffled ds) (dRet Q) Y := by
  intro ds Q Y hl h
  unfold S__law_shuffled at h
  split at h <;> try exact h.elim
  rename_i h0 w
  obtain ⟨rfl, h1, h⟩ := h
  have hz : w.length ≤ sizeLine := le_line h1 (by decide)
  refine ⟨_, rfl, hz, by show 0 ≤ sizeLine; decide, _, _, rfl, by decide, ?_⟩
  refine ⟨fun m e => ∃ l f : List Nat, e = [.dt (hdD W), .dt (.str w), .ow (sgs l), .ow (sgs f)] ∧ (f ++ l).Perm w ∧ m = l.length, ⟨_, w, [], rfl, .refl _, rfl⟩, ?_⟩
  rintro m e ⟨l, f, rfl, hp, rfl⟩
  have hlen := hp.length_eq
  rw [List.length_append] at hlen
  refine ⟨_, rfl, _, rfl, _, _, rfl, rfl, rfl, _, rfl, ?_⟩
  by_cases h0 : l.length = 0
  · refine iteNeg (by rw [List.length_map, h0]; decide) ?_
    have : l = [] := List.eq_nil_of_length_eq_zero h0
    subst this
    exact ⟨_, rfl, h f (by simpa using hp)⟩
  · refine itePos (by rw [List.length_map]; simp; omega) ?_
    refine ⟨_, rfl, _, rfl, _, rfl, _, rfl, _, rfl, rfl, (l.length : Int), by rw [List.length_map], by omega, by omega, fun r r1 r2 => ?_⟩
    have hr : r.toNat < l.length := by omega
    refine ⟨r, r.toNat, .str [l[r.toNat]], rfl, by omega, by omega, ?_, ?_, ?_⟩
    · rw [List.length_map]
      have := ixN_i hr
      rw [Int.toNat_of_nonneg r1] at this
      exact this
    · rw [List.getElem?_map, List.getElem?_eq_getElem hr]; rfl
    · refine ⟨_, rfl, ?_, ?_⟩
      · rw [List.length_map]; exact Nat.lt_of_lt_of_le (show _ < 2001 by omega) (by decide)
      · refine ⟨(l.eraseIdx r.toNat).length, by rw [List.length_eraseIdx]; rw [if_pos hr]; omega, l.eraseIdx r.toNat, f ++ [l[r.toNat]], ?_, ?_, rfl⟩
        · rw [sgs_erase]
          have e : sgs f ++ [D.str [l[r.toNat]]] = sgs (f ++ [l[r.toNat]]) := by unfold sgs; rw [List.map_append]; rfl
          rw [← e]
          rfl
        · rw [List.append_assoc]
          refine List.Perm.trans ?_ hp
          refine List.Perm.append_left f ?_
          exact List.Perm.trans (List.Perm.of_eq rfl) (get_perm hr)
/-! ### small ones -/
def S__law_is_int : SpecD
  | [d], Q, _ => isVr d = false ∧ Q (.bl (isIntD d))
  | _, _, _ => False
theorem m__law_is_int : MonoD S__law_is_int := by
  intro ds Q Q' X X' z y h
  unfold S__law_is_int at h ⊢
  split at h <;> first | exact h.elim | exact ⟨h.1, (z _) h.2⟩
abbrev N__law_is_int : List Str := ["thing"]
def b__law_is_int : WS := wRet (wAndV (wCB gIsi (wCons (wVar 0) (wCons (wC (.vr (.ty "int"))) wNil))) (wNotV (wCB gIsi (wCons (wVar 0) (wCons (wC (.vr (.ty "bool"))) wNil)))))
theorem h__law_is_int : ∀ ds Q Y, ds.length = 1 → S__law_is_int ds Q Y → b__law_is_int (startE N__law_is_int ds) (dRet Q) Y := by
  intro ds Q Y hl h
  unfold S__law_is_int at h
  split at h <;> try exact h.elim
  rename_i d
  obtain ⟨hv, h⟩ := h
  refine ⟨_, rfl, isi_w hv (by decide) ⟨_, rfl, ?_⟩⟩
  cases d <;> first | exact iteNeg (show ¬ false = true by decide) h | exact itePos rfl ⟨_, rfl, isi_w hv (by decide) ⟨_, rfl, h⟩⟩
def S__law_counts : SpecD
  | [.str w, .int m], Q, _ => w.length ≤ 2000 ∧ okS w ∧ 0 ≤ m ∧ m ≤ 26 ∧ Q (.tup (nts (cts w m.toNat)))
  | _, _, _ => False
theorem m__law_counts : MonoD S__law_counts := by
  intro ds Q Q' X X' z y h
  unfold S__law_counts at h ⊢
  split at h <;> first | exact h.elim | exact ⟨h.1, h.2.1, h.2.2.1, h.2.2.2.1, (z _) h.2.2.2.2⟩
abbrev N__law_counts : List Str := ["word", "many", "letter"]
def b__law_counts : WS := wRet (wTupL (wLc (wItems (wSl (wC (.str [97, 98, 99, 100, 101, 102, 103, 104, 105, 106, 107, 108, 109, 110, 111, 112, 113, 114, 115, 116, 117, 118, 119, 120, 121, 122])) wNo (wSm (wVar 1)))) (wN 2) wYes (wMt isStr gCountS (wVar 0) (wCons (wVar 2) wNil)) [2]))
theorem h__law_counts : ∀ ds Q Y, ds.length = 2 → S__law_counts ds Q Y → b__law_counts (startE N__law_counts ds) (dRet Q) Y := by
  intro ds Q Y hl h
  unfold S__law_counts at h
  split at h <;> try exact h.elim
  rename_i w m
  obtain ⟨h1, o, m1, m2, h⟩ := h
  obtain ⟨m, rfl⟩ := Int.eq_ofNat_of_zero_le m1
  rw [Int.toNat_natCast] at h
  have hsz : sizeLine = 16777216 := rfl
  have lt : cutD ([97, 98, 99, 100, 101, 102, 103, 104, 105, 106, 107, 108, 109, 110, 111, 112, 113, 114, 115, 116, 117, 118, 119, 120, 121, 122] : List Nat) none (some (m : Int)) = LET.take m := let_take
  refine ⟨_, rfl, _, rfl, by show 26 ≤ sizeLine; decide, ?_⟩
  rw [lt]
  refine ⟨by rw [List.length_map, List.length_take]; show min _ 26 ≤ _; omega, fun X' => ?_⟩
  refine lc_map (f := fun c : Nat => D.str [c]) (g := fun c : Nat => D.int ((w.count c : Nat) : Int)) (fun c hc K hK => ?_) ?_
  · exact ⟨_, rfl, ⟨_, rfl⟩, _, rfl, _, c, rfl, rfl, hK⟩
  have em : (LET.take m).map (fun c : Nat => D.int ((w.count c : Nat) : Int)) = nts (cts w m) := by
    unfold nts cts
    rw [List.map_map]
    rfl
  rw [em]
  exact h
def S__law_are_same : SpecD
  | [.str a, .str b], Q, _ => a.length ≤ 2000 ∧ b.length ≤ 2000 ∧ okS a ∧ okS b ∧ Q (.bl (decide (a.Perm b)))
  | _, _, _ => False
theorem m__law_are_same : MonoD S__law_are_same := by
  intro ds Q Q' X X' z y h
  unfold S__law_are_same at h ⊢
  split at h <;> first | exact h.elim | exact ⟨h.1, h.2.1, h.2.2.1, h.2.2.2.1, (z _) h.2.2.2.2⟩
abbrev N__law_are_same : List Str := ["one", "other"]
def b__law_are_same : WS := wRet (wOp2 (gEq false) (wDat (wCF sortedD (wCons (wVar 0) wNil))) (wDat (wCF sortedD (wCons (wVar 1) wNil))))
theorem h__law_are_same : ∀ ds Q Y, ds.length = 2 → S__law_are_same ds Q Y → b__law_are_same (startE N__law_are_same ds) (dRet Q) Y := by
  intro ds Q Y hl h
  unfold S__law_are_same at h
  split at h <;> try exact h.elim
  rename_i a b
  obtain ⟨h1, h2, o1, o2, h⟩ := h
  refine ⟨_, rfl, le_line h1 (by decide), _, rfl, le_line h2 (by decide), sg_ok o1, sg_ok o2, ?_⟩
  rw [if_neg (by decide), sg_eq]
  exact h
/-! ### the own first double -/
def S__law_double : SpecD
  | [.str w], Q, _ => w.length ≤ 300 ∧ okS w ∧ ∀ r, FD w r → Q r
  | _, _, _ => False
theorem m__law_double : MonoD S__law_double := by
  intro ds Q Q' X X' z y h
  unfold S__law_double at h ⊢
  split at h <;> first | exact h.elim | exact ⟨h.1, h.2.1, (fun h a0 a1 => (z _) (h a0 a1)) h.2.2⟩
abbrev N__law_double : List Str := ["word", "end", "half"]
def b__law_double : WS := wSeq (wFor (wRange2 (wC (.int 2)) (wOp2 addD (wCB lenD (wCons (wVar 0) wNil)) (wC (.int 1)))) (wN 1) (wFor (wRange2 (wC (.int 1)) (wOp2 addD (wOp2 (gI CDivN fun i j => .int (i.fdiv j)) (wVar 1) (wC (.int 2))) (wC (.int 1)))) (wN 2) (wIf (wIs (wCall S__law_are_same (wCons (wSl (wVar 0) (wSm (wOp2 (gI0 fun i j => .int (i - j)) (wVar 1) (wOp2 mulD (wC (.int 2)) (wVar 2)))) (wSm (wOp2 (gI0 fun i j => .int (i - j)) (wVar 1) (wVar 2)))) (wCons (wSl (wVar 0) (wSm (wOp2 (gI0 fun i j => .int (i - j)) (wVar 1) (wVar 2))) (wSm (wVar 1))) wNil)))) (wRet (wTup (wCons (wOp2 (gI0 fun i j => .int (i - j)) (wVar 1) (wOp2 mulD (wC (.int 2)) (wVar 2))) (wCons (wVar 2) wNil)))) wNext))) (wRet (wC .non))
theorem h__law_double : ∀ ds Q Y, ds.length = 1 → S__law_double ds Q Y → b__law_double (startE N__law_double ds) (dRet Q) Y := by
  intro ds Q Y hl h
  unfold S__law_double at h
  split at h <;> try exact h.elim
  rename_i w
  obtain ⟨h1, o, h⟩ := h
  have hsz : sizeLine = 16777216 := rfl
  have hz : w.length ≤ sizeLine := by omega
  refine ⟨_, rfl, hz, 2, (w.length : Int) + 1, rfl, rfl, ⟨by omega, by omega, by omega, by omega⟩, ?_⟩
  rw [rg_2]
  refine for_run (f := fun i : Nat => D.int ((i + 2 : Nat) : Int)) (st := fun (_ : Unit) (x : Sl × Sl) => [.dt (.str w), x.1, x.2]) (sb := fun _ x i => [.dt (.str w), .dt (.int ((i + 2 : Nat) : Int)), x.2])
    (P := fun p r _ => p ++ r = List.range (w.length - 1) ∧ ∀ e k, at2 w e k → e < p.length + 2 → ¬ hit w e k) _ (fun a x c Q q => q) (fun p c r _ x D' hP e3 e4 k1 => ?_) (fun p _ x hP => ?_) () (.non, .non) ⟨rfl, fun e k a z => by have := a.1; simp at z; omega⟩
  · obtain ⟨hp, hn⟩ := hP
    obtain ⟨rfl, hpl⟩ := rg_at hp
    have hen : p.length + 2 ≤ w.length := by omega
    generalize he : p.length + 2 = e at *
    have e22 : 2 ≤ e := by omega
    have hd : ((e : Nat) : Int).fdiv 2 = ((e / 2 : Nat) : Int) := fd_n (b := 2)
    refine ⟨_, rfl, _, _, rfl, rfl, ⟨by omega, by omega⟩, 1, ((e / 2 : Nat) : Int) + 1, rfl, by rw [hd], ⟨by omega, by omega, by omega, by omega⟩, ?_⟩
    rw [rg_1]
    refine for_run (f := fun i : Nat => D.int ((i + 1 : Nat) : Int)) (st := fun (_ : Unit) (y : Sl) => [.dt (.str w), .dt (.int (e : Int)), y]) (sb := fun _ y i => [.dt (.str w), .dt (.int (e : Int)), .dt (.int ((i + 1 : Nat) : Int))])
      (P := fun q r _ => q ++ r = List.range (e / 2) ∧ ∀ k, at2 w e k → k < q.length + 1 → ¬ hit w e k) _ (fun a x c Q q => q) (fun q c r2 _ y D2 hQ e5 e6 k2 => ?_) (fun q _ y hQ => ?_) () x.2 ⟨rfl, fun k a z => by have := a.2.2.1; simp at z; omega⟩
    · obtain ⟨hq, hm⟩ := hQ
      obtain ⟨rfl, hql⟩ := rg_at hq
      generalize hk : q.length + 1 = k at *
      have hke : k ≤ e / 2 := by omega
      have ha : at2 w e k := ⟨e22, hen, by omega, hke⟩
      have h2k : 2 * k ≤ e := by omega
      have w1 : cutD w (some ((e : Int) - (k : Int))) (some (e : Int)) = wd w (e - k) k := cut_wd (by omega) (by omega)
      have w2 : cutD w (some ((e : Int) - 2 * (k : Int))) (some ((e : Int) - (k : Int))) = wd w (e - 2 * k) k := cut_wd (by omega) (by omega)
      have l1 := @wd_len_le w (e - k) k
      have l2 := @wd_len_le w (e - 2 * k) k
      refine ⟨_, rfl, _, rfl, _, rfl, .inl ⟨by omega, by omega⟩, _, _, rfl, rfl, _, rfl, _, rfl, _, rfl, _, _, rfl, rfl, _, rfl, hz, ?_⟩
      refine ⟨_, rfl, _, rfl, _, rfl, _, _, rfl, rfl, _, rfl, _, rfl, _, rfl, hz, ?_⟩
      rw [w1, w2]
      refine ⟨by omega, by omega, wd_ok o, wd_ok o, _, rfl, ?_⟩
      by_cases hh : (wd w (e - 2 * k) k).Perm (wd w (e - k) k)
      · refine itePos (decide_eq_true hh) ?_
        refine ⟨_, rfl, _, rfl, .inl ⟨by omega, by omega⟩, _, _, rfl, rfl, _, rfl, le_d rfl, ?_⟩
        rw [e5, e3]
        refine h _ (.inr ⟨e, k, ha, hh.symm, fun e' k' a z => ?_, ?_⟩)
        · rcases z with z | ⟨rfl, z⟩
          · exact hn e' k' a z
          · exact hm k' a z
        · show D.tup [.int ((e : Int) - 2 * (k : Int)), .int (k : Int)] = _
          rw [show (e : Int) - 2 * (k : Int) = ((e - 2 * k : Nat) : Int) by omega]
      · refine iteNeg (by rw [decide_eq_true_iff]; exact hh) ?_
        refine (k2 () (.dt (.int (k : Int))) ⟨by rw [← hq]; simp, fun k' a z => ?_⟩).1
        rw [List.length_append, List.length_singleton] at z
        by_cases z2 : k' < k
        · exact hm k' a z2
        · have : k' = k := by omega
          subst this
          exact fun z => hh z.symm
    · obtain ⟨hq, hm⟩ := hQ
      rw [List.append_nil] at hq
      subst hq
      rw [List.length_range] at hm
      refine (k1 () (.dt (.int (e : Int)), y) ⟨by rw [← hp]; simp, fun e' k a z => ?_⟩).1
      rw [List.length_append, List.length_singleton] at z
      by_cases z2 : e' < e
      · exact hn e' k a z2
      · have : e' = e := by omega
        subst this
        exact hm k a (by have := a.2.2.2; omega)
  · obtain ⟨hp, hn⟩ := hP
    rw [List.append_nil] at hp
    subst hp
    rw [List.length_range] at hn
    refine h _ (.inl ⟨rfl, fun e k a => hn e k a ?_⟩)
    have := a.2.1
    have := a.1
    omega
/-! ### the own told double -/
def S__law_is_double : SpecD
  | [.str w, t], Q, _ => w.length ≤ 300 ∧ okS w ∧ vrs t ∧ Q (.bl (isDb w t))
  | _, _, _ => False
theorem m__law_is_double : MonoD S__law_is_double := by
  intro ds Q Q' X X' z y h
  unfold S__law_is_double at h ⊢
  split at h <;> first | exact h.elim | exact ⟨h.1, h.2.1, h.2.2.1, (z _) h.2.2.2⟩
abbrev N__law_is_double : List Str := ["word", "thing", "part", "at", "half"]
def b__law_is_double : WS := wSeq (wIf (wOrT (wNotT (wIs (wCB gIsi (wCons (wVar 1) (wCons (wC (.vr (.ty "tuple"))) wNil))))) (wOrT (wIs (wOp2 (gEq true) (wCB lenD (wCons (wVar 1) wNil)) (wC (.int 2)))) (wNotT (wIs (wCB allD (wCons (wDat (wLc (wItems (wVar 1)) (wN 2) wYes (wCall S__law_is_int (wCons (wVar 2) wNil)) [2])) wNil)))))) (wRet (wC (.bl false))) wNext) (wSeq (wAsg (wGTup 2 (wGCons (wN 3) (wGCons (wN 4) wGNil))) (wVar 1)) (wSeq (wIf (wOrT (wIs (wOp2 (gI0 fun i j => .bl (decide (i < j))) (wVar 3) (wC (.int 0)))) (wOrT (wIs (wOp2 (gI0 fun i j => .bl (decide (i < j))) (wVar 4) (wC (.int 1)))) (wIs (wOp2 (gI0 fun i j => .bl (decide (j < i))) (wOp2 addD (wVar 3) (wOp2 mulD (wC (.int 2)) (wVar 4))) (wCB lenD (wCons (wVar 0) wNil)))))) (wRet (wC (.bl false))) wNext) (wRet (wCall S__law_are_same (wCons (wSl (wVar 0) (wSm (wVar 3)) (wSm (wOp2 addD (wVar 3) (wVar 4)))) (wCons (wSl (wVar 0) (wSm (wOp2 addD (wVar 3) (wVar 4))) (wSm (wOp2 addD (wVar 3) (wOp2 mulD (wC (.int 2)) (wVar 4))))) wNil))))))
theorem h__law_is_double : ∀ ds Q Y, ds.length = 2 → S__law_is_double ds Q Y → b__law_is_double (startE N__law_is_double ds) (dRet Q) Y := by
  intro ds Q Y hl h
  unfold S__law_is_double at h
  split at h <;> try exact h.elim
  rename_i w t
  obtain ⟨h1, o, ht, h⟩ := h
  have hsz : sizeLine = 16777216 := rfl
  have hz : w.length ≤ sizeLine := by omega
  refine ⟨_, rfl, isi_w (vrs_vr ht) (by decide) ⟨_, rfl, ?_⟩⟩
  by_cases es : subTy (tyOf t) "tuple" = true
  · obtain ⟨ds, rfl⟩ : ∃ ds, t = .tup ds := by cases t <;> first | exact ⟨_, rfl⟩ | exact Bool.noConfusion (show false = true from es)
    refine iteNeg (show ¬ (!true) = true by decide) ?_
    refine ⟨_, rfl, rfl, rfl, _, rfl, ?_⟩
    rw [if_pos rfl, eqD_int]
    by_cases l2 : ds.length = 2
    · refine iteNeg (by simp [l2]) ?_
      match ds, l2 with
      | [x, y], _ =>
        have vx : isVr x = false := ht.2 x (by simp)
        have vy : isVr y = false := ht.2 y (by simp)
        refine ⟨_, rfl, le_d rfl, fun X' => ?_⟩
        show lcRun _ _ _ _ ([x, y].map id) _ _
        refine lc_map (f := id) (g := fun d => D.bl (isIntD d)) (fun d hd K hK => ⟨_, rfl, ?_, hK⟩) ?_
        · exact ht.2 d hd
        refine allD_map (p := isIntD) ⟨_, rfl, ?_⟩
        by_cases ei : isIntD x = true ∧ isIntD y = true
        · obtain ⟨ex, ey⟩ := ei
          have hx : ∃ a, x = .int a := by cases x <;> first | exact ⟨_, rfl⟩ | exact Bool.noConfusion (show false = true from ex)
          have hy : ∃ a, y = .int a := by cases y <;> first | exact ⟨_, rfl⟩ | exact Bool.noConfusion (show false = true from ey)
          obtain ⟨a, rfl⟩ := hx
          obtain ⟨b, rfl⟩ := hy
          refine iteNeg (show ¬ (!true) = true by decide) ?_
          refine ⟨_, rfl, _, rfl, rfl, _, _, rfl, _, _, rfl, rfl, ?_⟩
          have no : ¬ (0 ≤ a ∧ 1 ≤ b ∧ a + 2 * b ≤ (w.length : Int)) → Q (.bl false) := fun z => by
            rw [isDb_int, decide_eq_false z, Bool.false_and] at h
            exact h
          refine ⟨_, rfl, _, _, rfl, rfl, _, rfl, ?_⟩
          by_cases z1 : a < 0
          · exact itePos (decide_eq_true z1) (no (by omega))
          refine iteNeg (by rw [decide_eq_true_iff]; exact z1) ?_
          refine ⟨_, rfl, _, _, rfl, rfl, _, rfl, ?_⟩
          by_cases z2 : b < 1
          · exact itePos (decide_eq_true z2) (no (by omega))
          refine iteNeg (by rw [decide_eq_true_iff]; exact z2) ?_
          obtain ⟨a, rfl⟩ := Int.eq_ofNat_of_zero_le (show 0 ≤ a by omega)
          obtain ⟨b, rfl⟩ := Int.eq_ofNat_of_zero_le (show 0 ≤ b by omega)
          refine ⟨_, rfl, _, rfl, .inl ⟨by decide, by decide⟩, _, rfl, hz, _, _, rfl, rfl, _, rfl, ?_⟩
          by_cases z3 : a + 2 * b ≤ w.length
          · refine iteNeg (by rw [decide_eq_true_iff]; omega) ?_
            have w1 : cutD w (some (a : Int)) (some ((a : Int) + (b : Int))) = wd w a b := cut_wd rfl rfl
            have w2 : cutD w (some ((a : Int) + (b : Int))) (some ((a : Int) + 2 * (b : Int))) = wd w (a + b) b := cut_wd (by omega) (by omega)
            have l1 := @wd_len_le w a b
            have l2 := @wd_len_le w (a + b) b
            refine ⟨_, rfl, _, rfl, _, rfl, _, rfl, _, rfl, _, rfl, hz, ?_⟩
            refine ⟨_, rfl, _, rfl, _, rfl, _, rfl, _, rfl, _, rfl, .inl ⟨by decide, by decide⟩, _, rfl, hz, ?_⟩
            rw [w1, w2]
            refine ⟨by omega, by omega, wd_ok o, wd_ok o, ?_⟩
            have : isDb w (.tup [.int (a : Int), .int (b : Int)]) = decide ((wd w a b).Perm (wd w (a + b) b)) := by
              rw [isDb_int, decide_eq_true (by omega), Bool.true_and, Int.toNat_natCast, Int.toNat_natCast, show ((a : Int) + (b : Int)).toNat = a + b by omega]
            rw [this] at h
            exact h
          · exact itePos (decide_eq_true (by omega)) (no (by omega))
        · refine itePos ?_ ?_
          · have : ([x, y].all isIntD) = false := by
              rw [Bool.eq_false_iff]
              intro z
              rw [List.all_eq_true] at z
              exact ei ⟨z x (by simp), z y (by simp)⟩
            rw [this]
            rfl
          · have : isDb w (.tup [x, y]) = false := by
              cases x <;> first | rfl | skip
              cases y <;> first | rfl | skip
              exact (ei ⟨rfl, rfl⟩).elim
            rw [this] at h
            exact h
    · refine itePos (by simp; omega) ?_
      have : isDb w (.tup ds) = false := by
        unfold isDb
        split
        · rename_i heq
          cases heq
          exact (l2 rfl).elim
        · rfl
      rw [this] at h
      exact h
  · refine itePos (by simpa using es) ?_
    have : isDb w t = false := by
      unfold isDb
      split
      · exact (es rfl).elim
      · rfl
    rw [this] at h
    exact h
end LK
/-! the law's own sums, periods, counts -/
namespace LK
open PySem PySem.Spec PyProof.Rows L2 DL
def S__law_sizes : SpecD
  | [.str w], Q, _ => w.length ≤ 300 ∧ okS w ∧ ∀ ks, SZ w ks → Q (.lst (nts ks))
  | _, _, _ => False
theorem m__law_sizes : MonoD S__law_sizes := by
  intro ds Q Q' X X' z y h
  unfold S__law_sizes at h ⊢
  split at h <;> first | exact h.elim | exact ⟨h.1, h.2.1, (fun h a0 a1 => (z _) (h a0 a1)) h.2.2⟩
abbrev N__law_sizes : List Str := ["word", "found", "size", "at", "some", "one"]
def b__law_sizes : WS := wSeq (wAsgF 1 (wLst wNil)) (wSeq (wFor (wRange1 (wOp2 addD (wCB lenD (wCons (wVar 0) wNil)) (wC (.int 1)))) (wN 2) (wSeq (wAsg (wN 4) (wDat (wLc (wRange1 (wOp2 addD (wOp2 (gI0 fun i j => .int (i - j)) (wCB lenD (wCons (wVar 0) wNil)) (wVar 2)) (wC (.int 1)))) (wN 3) wYes (wTupL (wCF sortedD (wCons (wSl (wVar 0) (wSm (wVar 3)) (wSm (wOp2 addD (wVar 3) (wVar 2)))) wNil))) [3]))) (wApp 1 (wLenDictT (wDat (wLc (wItems (wVar 4)) (wN 5) wYes (wTup (wCons (wVar 5) (wCons (wC (.bl true)) wNil))) [5])))))) (wRetOwn 1))
def f1 (x : List Nat) : List (List Nat) := x.map fun c => [c]
theorem f1_back {x : List Nat} : (f1 x).map (fun l => l.headD 0) = x := by
  unfold f1
  rw [List.map_map]
  conv => rhs; rw [← List.map_id x]
  rfl
theorem f1_inj {x y : List Nat} (h : f1 x = f1 y) : x = y := by rw [← f1_back (x := x), h, f1_back]
theorem cnt_of {w : List Nat} {k : Nat} {L : List (List (List Nat))} (nd : L.Nodup) (mem : ∀ x, x ∈ L ↔ ∃ i, i + k ≤ w.length ∧ x = f1 (sortN (wd w i k))) : cnt w k L.length := by
  have e : L = (L.map fun x => x.map fun l => l.headD 0).map f1 := by
    rw [List.map_map]
    conv => lhs; rw [← List.map_id L]
    refine List.map_congr_left fun x hx => ?_
    obtain ⟨i, _, rfl⟩ := (mem x).mp hx
    exact congrArg f1 f1_back.symm
  refine ⟨L.map fun x => x.map fun l => l.headD 0, ?_, fun x => ?_, by rw [List.length_map]⟩
  · rw [e] at nd
    exact nodup_map nd
  · constructor
    · intro hx
      have : f1 x ∈ L := by rw [e]; exact List.mem_map_of_mem hx
      obtain ⟨i, hi, z⟩ := (mem _).mp this
      exact ⟨i, hi, f1_inj z⟩
    · rintro ⟨i, hi, rfl⟩
      have := List.mem_map_of_mem (f := fun x : List (List Nat) => x.map fun l => l.headD 0) ((mem _).mpr ⟨i, hi, rfl⟩)
      rw [f1_back] at this
      exact this
theorem h__law_sizes : ∀ ds Q Y, ds.length = 1 → S__law_sizes ds Q Y → b__law_sizes (startE N__law_sizes ds) (dRet Q) Y := by
  intro ds Q Y hl h
  unfold S__law_sizes at h
  split at h <;> try exact h.elim
  rename_i w
  obtain ⟨h1, o, h⟩ := h
  have hsz : sizeLine = 16777216 := rfl
  have hz : w.length ≤ sizeLine := by omega
  refine ⟨by show 0 ≤ sizeLine; decide, ?_⟩
  refine ⟨_, rfl, hz, (w.length : Int) + 1, rfl, by omega, by omega, ?_⟩
  rw [rg_0]
  refine for_run (f := fun i : Nat => D.int (i : Int)) (st := fun (a : List Nat) (x : Sl × Sl) => [.dt (.str w), .ow (nts a), x.1, .non, x.2, .non]) (sb := fun a x i => [.dt (.str w), .ow (nts a), .dt (.int (i : Int)), .non, x.2, .non])
    (P := fun p r a => p ++ r = List.range (w.length + 1) ∧ a.length = p.length ∧ ∀ k c, a[k]? = some c → cnt w k c) _ (fun a x c Q q => q) (fun p c r a x D' hP e3 e4 k1 => ?_) (fun p a x hP => ?_) [] (.non, .non) ⟨rfl, rfl, fun k c z => by simp at z⟩
  · obtain ⟨hp, hl, ha⟩ := hP
    obtain ⟨rfl, hpl⟩ := rg_at hp
    generalize hk : p.length = k at *
    refine ⟨_, rfl, hz, _, rfl, _, _, rfl, rfl, ((w.length - k : Nat) : Int) + 1, ?_, by omega, by omega, ?_⟩
    · show D.int ((w.length : Int) - (k : Int) + 1) = _
      rw [show (w.length : Int) - (k : Int) = ((w.length - k : Nat) : Int) by omega]
    rw [rg_0]
    refine ⟨by rw [List.length_map, List.length_range]; omega, fun X' => ?_⟩
    refine lc_map (f := fun i : Nat => D.int (i : Int)) (g := fun i : Nat => D.tup (sg (sortN (wd w i k)))) (fun i hi K hK => ?_) ?_
    · have w1 : cutD w (some (i : Int)) (some ((i : Int) + (k : Int))) = wd w i k := cut_wd rfl rfl
      have l1 := @wd_len_le w i k
      refine ⟨_, rfl, _, rfl, _, rfl, _, rfl, _, rfl, _, rfl, hz, by rw [w1]; omega, ?_⟩
      rw [w1]
      exact hK
    refine ⟨_, rfl, _, rfl, by rw [List.length_map, List.length_range]; omega, fun X' => ?_⟩
    refine lc_map (f := fun i : Nat => D.tup (sg (sortN (wd w i k)))) (g := fun i : Nat => D.tup [D.tup (sg (sortN (wd w i k))), .bl true]) (fun i hi K hK => ⟨_, rfl, le_d rfl, hK⟩) ?_
    refine ⟨(List.range (w.length - k + 1)).map fun i => (f1 (sortN (wd w i k)), .bl true), ?_, fun L nd mem => ?_⟩
    · rw [List.map_map]
      congr 1
      refine List.map_congr_left fun i _ => ?_
      show _ = D.tup [.tup ((f1 (sortN (wd w i k))).map D.str), .bl true]
      unfold f1 sg
      rw [List.map_map]
      rfl
    have hc : cnt w k L.length := cnt_of nd fun x => by
      rw [mem x, List.map_map, List.mem_map]
      constructor
      · rintro ⟨i, hi, e⟩
        have := List.mem_range.mp hi
        exact ⟨i, by omega, e.symm⟩
      · rintro ⟨i, hi, rfl⟩
        exact ⟨i, List.mem_range.mpr (by omega), rfl⟩
    refine ⟨by show (nts a).length < _; rw [List.length_map]; omega, ?_⟩
    have ea : nts a ++ [D.int (L.length : Int)] = nts (a ++ [L.length]) := by unfold nts; rw [List.map_append]; rfl
    rw [ea]
    refine (k1 (a ++ [L.length]) (.dt (.int (k : Int)), _) ⟨by rw [← hp]; simp, by rw [List.length_append, List.length_append, hl, hk]; rfl, fun k' c z => ?_⟩).1
    by_cases e : k' < a.length
    · rw [List.getElem?_append_left e] at z
      exact ha k' c z
    · rw [List.getElem?_append_right (by omega)] at z
      have : k' - a.length = 0 := by
        refine Nat.lt_one_iff.mp ?_
        exact (List.getElem?_eq_some_iff.mp z).1
      rw [this] at z
      cases z
      have : k' = k := by omega
      rw [this]
      exact hc
  · obtain ⟨hp, hl, ha⟩ := hP
    rw [List.append_nil] at hp
    subst hp
    rw [List.length_range] at hl
    exact ⟨_, rfl, h a ⟨hl, ha⟩⟩
/-! ### the own counts met -/
def S__law_met : SpecD
  | [.str w, t], Q, _ => w.length ≤ 2000 ∧ okS w ∧ ∃ cs : List Nat, t = .tup (nts cs) ∧ cs.length ≤ 26 ∧ (∀ c ∈ cs, c ≤ 2000) ∧ ∀ r, CM w cs r → Q r
  | _, _, _ => False
theorem m__law_met : MonoD S__law_met := by
  intro ds Q Q' X X' z y h
  unfold S__law_met at h ⊢
  split at h <;> first | exact h.elim | exact ⟨h.1, h.2.1, h.2.2.elim fun cs h => ⟨cs, h.1, h.2.1, h.2.2.1, fun r c => z _ (h.2.2.2 r c)⟩⟩
abbrev N__law_met : List Str := ["word", "counts", "size", "many", "at", "part"]
def b__law_met : WS := wSeq (wPar 2 3 (wMD (wCB sumTD (wCons (wVar 1) wNil)) (wMD (wCB lenD (wCons (wVar 1) wNil)) wMNil))) (wSeq (wFor (wRange1 (wOp2 addD (wOp2 (gI0 fun i j => .int (i - j)) (wCB lenD (wCons (wVar 0) wNil)) (wVar 2)) (wC (.int 1)))) (wN 4) (wSeq (wAsg (wN 5) (wSl (wVar 0) (wSm (wVar 4)) (wSm (wOp2 addD (wVar 4) (wVar 2))))) (wIf (wAndT (wIs (wOp2 (gEq false) (wCall S__law_counts (wCons (wVar 5) (wCons (wVar 3) wNil))) (wVar 1))) (wIs (wOp2 (gEq false) (wCB sumTD (wCons (wCall S__law_counts (wCons (wVar 5) (wCons (wVar 3) wNil))) wNil)) (wCB lenD (wCons (wVar 5) wNil))))) (wRet (wVar 4)) wNext))) (wRet (wC .non)))
theorem h__law_met : ∀ ds Q Y, ds.length = 2 → S__law_met ds Q Y → b__law_met (startE N__law_met ds) (dRet Q) Y := by
  intro ds Q Y hl h
  unfold S__law_met at h
  split at h <;> try exact h.elim
  rename_i w t
  obtain ⟨h1, o, cs, rfl, c2, c3, h⟩ := h
  have hsz : sizeLine = 16777216 := rfl
  have hz : w.length ≤ sizeLine := by omega
  have hs := sum_le c3
  have hs2 : cs.sum ≤ 52000 := by omega
  have lc : (nts cs).length = cs.length := List.length_map ..
  refine ⟨_, rfl, cs.map fun n : Nat => (n : Int), by rw [List.map_map]; rfl, _, rfl, _, _, rfl, by decide, ?_⟩
  rw [sum_i]
  refine ⟨_, rfl, hz, _, rfl, _, _, rfl, rfl, (w.length : Int) - (cs.sum : Int) + 1, rfl, by omega, by omega, ?_⟩
  rw [rg_m]
  generalize hS : cs.sum = S at *
  refine for_run (f := fun i : Nat => D.int (i : Int)) (st := fun (_ : Unit) (x : Sl × Sl) => [.dt (.str w), .dt (.tup (nts cs)), .dt (.int (S : Int)), .dt (.int ((nts cs).length : Int)), x.1, x.2])
    (sb := fun _ x i => [.dt (.str w), .dt (.tup (nts cs)), .dt (.int (S : Int)), .dt (.int ((nts cs).length : Int)), .dt (.int (i : Int)), x.2])
    (P := fun p r _ => p ++ r = List.range (w.length + 1 - S) ∧ ∀ j, j < p.length → cts (wd w j S) cs.length ≠ cs) _ (fun a x c Q q => q) (fun p c r _ x D' hP e3 e4 k => ?_) (fun p _ x hP => ?_) () (.non, .non) ⟨rfl, fun j z => by simp at z⟩
  · obtain ⟨hp, hn⟩ := hP
    obtain ⟨rfl, hpl⟩ := rg_at hp
    have w1 : cutD w (some ((p.length : Nat) : Int)) (some (((p.length : Nat) : Int) + (S : Int))) = wd w p.length S := cut_wd rfl rfl
    have l1 : (wd w p.length S).length = S := wd_len (by omega)
    refine ⟨_, rfl, _, rfl, _, rfl, _, rfl, _, rfl, _, rfl, hz, ?_⟩
    rw [w1]
    have go : cts (wd w p.length S) cs.length ≠ cs → D'.nx [.dt (.str w), .dt (.tup (nts cs)), .dt (.int (S : Int)), .dt (.int ((nts cs).length : Int)), .dt (.int (p.length : Int)), .dt (.str (wd w p.length S))] := fun e => (k () (_, _) ⟨by rw [← hp]; simp, fun j hj => by
      rw [List.length_append, List.length_singleton] at hj
      by_cases e2 : j < p.length
      · exact hn j e2
      · rw [show j = p.length by omega]; exact e⟩).1
    refine ⟨_, rfl, _, rfl, by omega, wd_ok o, by omega, by rw [lc]; omega, ?_⟩
    rw [Int.toNat_natCast, lc]
    refine ⟨_, rfl, nts_okD, nts_okD, _, rfl, ?_⟩
    rw [if_neg (show ¬ (false = true) by decide), nts_eq]
    by_cases e : cts (wd w p.length S) cs.length = cs
    · refine itePos (decide_eq_true e) ?_
      refine ⟨_, rfl, _, rfl, by omega, wd_ok o, by omega, by omega, ?_⟩
      rw [Int.toNat_natCast, e]
      refine ⟨cs.map fun n : Nat => (n : Int), by rw [List.map_map]; rfl, ?_⟩
      rw [sum_i, hS]
      refine ⟨_, rfl, by omega, rfl, rfl, _, rfl, ?_⟩
      rw [if_neg (show ¬ (false = true) by decide), eqD_int, l1]
      refine itePos (decide_eq_true rfl) ⟨_, rfl, ?_⟩
      rw [e3]
      exact h _ (.inr ⟨p.length, by rw [hS]; omega, by rw [hS]; exact e, fun j hj => by rw [hS]; exact hn j hj, rfl⟩)
    · refine iteNeg (by rw [decide_eq_true_iff]; exact e) (iteNeg (by decide) ?_)
      have g := go e
      rw [lc] at g
      exact g
  · obtain ⟨hp, hn⟩ := hP
    rw [List.append_nil] at hp
    subst hp
    rw [List.length_range] at hn
    exact h _ (.inl ⟨rfl, fun i hi => by rw [hS] at hi ⊢; exact hn i (by omega)⟩)
/-! ### the own period -/
def S__law_period : SpecD
  | [.str w], Q, _ => w.length ≤ 300 ∧ okS w ∧ ∀ p, PR w p → Q (.int (p : Nat))
  | _, _, _ => False
theorem m__law_period : MonoD S__law_period := by
  intro ds Q Q' X X' z y h
  unfold S__law_period at h ⊢
  split at h <;> first | exact h.elim | exact ⟨h.1, h.2.1, (fun h a0 a1 => (z _) (h a0 a1)) h.2.2⟩
abbrev N__law_period : List Str := ["word", "size", "at", "parts", "rest", "part", "letter"]
def b__law_period : WS := wSeq (wFor (wRange2 (wC (.int 1)) (wOp2 addD (wCB lenD (wCons (wVar 0) wNil)) (wC (.int 1)))) (wN 1) (wSeq (wAsg (wN 3) (wDat (wLc (wRange3 (wC (.int 0)) (wOp2 addD (wOp2 (gI0 fun i j => .int (i - j)) (wCB lenD (wCons (wVar 0) wNil)) (wVar 1)) (wC (.int 1))) (wVar 1)) (wN 2) wYes (wSl (wVar 0) (wSm (wVar 2)) (wSm (wOp2 addD (wVar 2) (wVar 1)))) [2]))) (wSeq (wAsg (wN 4) (wSl (wVar 0) (wSm (wOp2 mulD (wCB lenD (wCons (wVar 3) wNil)) (wVar 1))) wNo)) (wIf (wIs (wCB allD (wCons (wDat (wLc (wItems (wVar 3)) (wN 5) wYes (wCall S__law_are_same (wCons (wOp2 idxD (wVar 3) (wC (.int 0))) (wCons (wVar 5) wNil))) [5])) wNil))) (wIf (wIs (wCB allD (wCons (wDat (wLc (wItems (wVar 4)) (wN 6) wYes (wOp2 (gI0 fun i j => .bl (decide (i ≤ j))) (wMt isStr gCountS (wVar 4) (wCons (wVar 6) wNil)) (wMt isStr gCountS (wOp2 idxD (wVar 3) (wC (.int 0))) (wCons (wVar 6) wNil))) [6])) wNil))) (wRet (wVar 1)) wNext) wNext)))) (wRet (wC (.int 0)))
theorem h__law_period : ∀ ds Q Y, ds.length = 1 → S__law_period ds Q Y → b__law_period (startE N__law_period ds) (dRet Q) Y := by
  intro ds Q Y hl h
  unfold S__law_period at h
  split at h <;> try exact h.elim
  rename_i w
  obtain ⟨h1, o, h⟩ := h
  have hsz : sizeLine = 16777216 := rfl
  have hz : w.length ≤ sizeLine := by omega
  refine ⟨_, rfl, hz, 1, (w.length : Int) + 1, rfl, rfl, ⟨by omega, by omega, by omega, by omega⟩, ?_⟩
  rw [rg_1]
  refine for_run (f := fun i : Nat => D.int ((i + 1 : Nat) : Int)) (st := fun (_ : Unit) (x : Sl × Sl × Sl) => [.dt (.str w), x.1, .non, x.2.1, x.2.2, .non, .non]) (sb := fun _ x i => [.dt (.str w), .dt (.int ((i + 1 : Nat) : Int)), .non, x.2.1, x.2.2, .non, .non])
    (P := fun p r _ => p ++ r = List.range w.length ∧ ∀ s, 1 ≤ s → s < p.length + 1 → ¬ ISP w s) _ (fun a x c Q q => q) (fun p c r _ x D' hP e3 e4 k => ?_) (fun p _ x hP => ?_) () (.non, .non, .non) ⟨rfl, fun s a b => by simp at b; omega⟩
  · obtain ⟨hp, hn⟩ := hP
    obtain ⟨rfl, hpl⟩ := rg_at hp
    generalize hs : p.length + 1 = s at *
    have s1 : 1 ≤ s := by omega
    have s2 : s ≤ w.length := by omega
    have hq := Nat.div_mul_le_self w.length s
    have hq1 : 1 ≤ w.length / s := (Nat.le_div_iff_mul_le (by omega)).mpr (by omega)
    have hqn : w.length / s ≤ w.length := Nat.div_le_self _ _
    have eq : (w.length + 1 - s - 0 - 1) / s + 1 = w.length / s := by
      rw [show w.length + 1 - s - 0 - 1 = w.length - s by omega]
      exact ((Nat.div_eq w.length s).trans (if_pos ⟨by omega, s2⟩)).symm
    have rg := rgC_up (i := 0) (j := w.length + 1 - s) (c := s) (by omega) (by omega) s1 (by omega)
    rw [eq] at rg
    have hin : ∀ t, t < w.length / s ↔ t * s + s ≤ w.length := fun t => by
      rw [← Nat.succ_le_iff, Nat.le_div_iff_mul_le (by omega), Nat.succ_mul]
    have nope : ¬ ISP w s → ∀ ys, D'.nx ys = D'.nx ys → True := fun _ _ _ => trivial
    generalize hQ : w.length / s = q at *
    refine ⟨_, rfl, hz, _, rfl, _, _, rfl, rfl, _, rfl, 0, ((w.length + 1 - s : Nat) : Int), (s : Int), q, rfl, ?_, rfl, rg, ?_⟩
    · show D.int ((w.length : Int) - (s : Int) + 1) = _
      rw [show (w.length : Int) - (s : Int) + 1 = ((w.length + 1 - s : Nat) : Int) by omega]
    refine ⟨by rw [List.length_map, List.length_range]; omega, fun X' => ?_⟩
    refine lc_map (f := fun t : Nat => D.int (0 + (t : Int) * (s : Int))) (g := fun t : Nat => D.str (wd w (t * s) s)) (fun t ht K hK => ?_) ?_
    · have w1 : cutD w (some (0 + (t : Int) * (s : Int))) (some (0 + (t : Int) * (s : Int) + (s : Int))) = wd w (t * s) s := cut_wd (by rw [Int.zero_add, Int.natCast_mul]) (by rw [Int.zero_add, Int.natCast_mul])
      refine ⟨_, rfl, _, rfl, _, rfl, _, rfl, _, rfl, _, rfl, hz, ?_⟩
      rw [w1]
      exact hK
    have ll : ((List.range q).map fun t : Nat => D.str (wd w (t * s) s)).length = q := by rw [List.length_map, List.length_range]
    have h0 : atI ((List.range q).map fun t : Nat => D.str (wd w (t * s) s)) ((0 : Nat) : Int) = some (.str (wd w 0 s)) := atI_nat (by
      rw [List.getElem?_map, List.getElem?_range (by omega)]
      show some (D.str (wd w (0 * s) s)) = _
      rw [Nat.zero_mul])
    have cr : cutD w (some ((((List.range q).map fun t : Nat => D.str (wd w (t * s) s)).length : Int) * (s : Int))) none = w.drop (q * s) := by
      rw [ll, cutD_from (Int.mul_nonneg (by omega) (by omega)), show ((q : Int) * (s : Int)).toNat = q * s by rw [← Int.natCast_mul, Int.toNat_natCast]]
    have lr : (w.drop (q * s)).length ≤ 300 := by rw [List.length_drop]; omega
    have orr : okS (w.drop (q * s)) := okS_sub o fun c hc => List.mem_of_mem_drop hc
    have l0 := @wd_len_le w 0 s
    refine ⟨_, rfl, _, rfl, _, rfl, .inl ⟨by rw [ll]; omega, by rw [ll]; omega⟩, _, rfl, hz, ?_⟩
    rw [cr]
    have er : rest w s = w.drop (q * s) := by unfold rest; rw [hQ]
    have go : ¬ ISP w s → D'.nx [.dt (.str w), .dt (.int (s : Int)), .non, .dt (.lst ((List.range q).map fun t : Nat => D.str (wd w (t * s) s))), .dt (.str (w.drop (q * s))), .non, .non] := fun e => (k () (_, _, _) ⟨by rw [← hp]; simp, fun s' a z => by
      rw [List.length_append, List.length_singleton] at z
      by_cases z2 : s' < s
      · exact hn s' a z2
      · rw [show s' = s by omega]; exact e⟩).1
    refine ⟨_, rfl, by rw [ll]; omega, fun X' => ?_⟩
    refine lc_map (f := fun t : Nat => D.str (wd w (t * s) s)) (g := fun t : Nat => D.bl (decide ((wd w 0 s).Perm (wd w (t * s) s)))) (fun t ht K hK => ?_) ?_
    · have l1 := @wd_len_le w (t * s) s
      exact ⟨_, rfl, _, h0, _, rfl, by omega, by omega, wd_ok o, wd_ok o, hK⟩
    refine allD_map (p := fun t : Nat => decide ((wd w 0 s).Perm (wd w (t * s) s))) ⟨_, rfl, ?_⟩
    have hfull : ((List.range q).all fun t : Nat => decide ((wd w 0 s).Perm (wd w (t * s) s))) = true ↔ full w s := by
      rw [List.all_eq_true]
      constructor
      · intro z t ht
        exact (of_decide_eq_true (z t (List.mem_range.mpr ((hin t).mpr ht)))).symm
      · intro z t ht
        exact decide_eq_true (z t ((hin t).mp (List.mem_range.mp ht))).symm
    by_cases ef : ((List.range q).all fun t : Nat => decide ((wd w 0 s).Perm (wd w (t * s) s))) = true
    · refine itePos ef ?_
      refine ⟨_, rfl, by rw [List.length_map]; omega, fun X' => ?_⟩
      refine lc_map (f := fun c : Nat => D.str [c]) (g := fun c : Nat => D.bl (decide ((w.drop (q * s)).count c ≤ (wd w 0 s).count c))) (fun c hc K hK => ?_) ?_
      · refine ⟨_, rfl, ⟨_, rfl⟩, _, rfl, _, c, rfl, rfl, _, rfl, _, h0, ⟨_, rfl⟩, _, rfl, _, c, rfl, rfl, _, _, rfl, rfl, ?_⟩
        have : decide ((((w.drop (q * s)).count c : Nat) : Int) ≤ (((wd w 0 s).count c : Nat) : Int)) = decide ((w.drop (q * s)).count c ≤ (wd w 0 s).count c) := decide_eq_decide.mpr (by omega)
        show K (some (.bl (decide ((((w.drop (q * s)).count c : Nat) : Int) ≤ (((wd w 0 s).count c : Nat) : Int)))))
        rw [this]
        exact hK
      refine allD_map (p := fun c : Nat => decide ((w.drop (q * s)).count c ≤ (wd w 0 s).count c)) ⟨_, rfl, ?_⟩
      have hr : ((w.drop (q * s)).all fun c : Nat => decide ((w.drop (q * s)).count c ≤ (wd w 0 s).count c)) = true ↔ ∀ c, (rest w s).count c ≤ (wd w 0 s).count c := by
        rw [List.all_eq_true, er]
        constructor
        · intro z c
          by_cases hc : c ∈ w.drop (q * s)
          · exact of_decide_eq_true (z c hc)
          · rw [List.count_eq_zero_of_not_mem hc]; exact Nat.zero_le _
        · intro z c _
          exact decide_eq_true (z c)
      by_cases e2 : ((w.drop (q * s)).all fun c : Nat => decide ((w.drop (q * s)).count c ≤ (wd w 0 s).count c)) = true
      · refine itePos e2 ⟨_, rfl, ?_⟩
        rw [e3]
        exact h _ (.inr ⟨s1, s2, ⟨hfull.mp ef, hr.mp e2⟩, fun s' a z => hn s' a z⟩)
      · exact iteNeg e2 (go fun z => e2 (hr.mpr z.2))
    · exact iteNeg ef (go fun z => ef (hfull.mpr z.1))
  · obtain ⟨hp, hn⟩ := hP
    rw [List.append_nil] at hp
    subst hp
    rw [List.length_range] at hn
    exact h 0 (.inl ⟨rfl, fun s a b => hn s a (by omega)⟩)
end LK
/-! words made, doubles told -/
namespace LK
open PySem PySem.Spec PyProof.Rows L2 DL
def ab3 (w : List Nat) (n : Nat) : Prop := w.length ≤ n ∧ ∀ c ∈ w, c ∈ [97, 98, 99]
theorem ab3_app {a b : List Nat} {n m : Nat} (h : ab3 a n) (q : ab3 b m) : ab3 (a ++ b) (n + m) := ⟨by rw [List.length_append]; have := h.1; have := q.1; omega, fun c hc => (List.mem_append.mp hc).elim (h.2 c) (q.2 c)⟩
theorem ab3_take {a : List Nat} {n k : Nat} (h : ab3 a n) : ab3 (a.take k) n := ⟨by rw [List.length_take]; have := h.1; omega, fun c hc => h.2 c (List.mem_of_mem_take hc)⟩
theorem ab3_perm {a b : List Nat} {n : Nat} (h : ab3 a n) (p : b.Perm a) : ab3 b n := ⟨by rw [p.length_eq]; exact h.1, fun c hc => h.2 c (p.mem_iff.mp hc)⟩
theorem ab3_mono {w : List Nat} {n m : Nat} (h : ab3 w n) (q : n ≤ m) : ab3 w m := ⟨Nat.le_trans h.1 q, h.2⟩
theorem ab3_ok {w : List Nat} {n : Nat} (h : ab3 w n) : okS w := fun c hc => by
  have := h.2 c hc
  simp at this
  omega
theorem ab3_word {w : List Nat} (h : ab3 w 2000) : wordD (.str w) = true := lets_word (m := 3) (fun c hc => h.2 c hc) h.1
def S__law_made (W : Wd) : SpecD
  | [h], Q, _ => h = hdD W ∧ ∀ w, ab3 w 40 → Q (.str w)
  | _, _, _ => False
theorem m__law_made {W : Wd} : MonoD (S__law_made W) := by
  intro ds Q Q' X X' z y h
  unfold S__law_made at h ⊢
  split at h <;> first | exact h.elim | exact ⟨h.1, (fun h a0 a1 => (z _) (h a0 a1)) h.2⟩
abbrev N__law_made : List Str := ["hand", "part", "found", "turn"]
def b__law_made (W : Wd) : WS := wSeq (wPar 1 2 (wMD (wOp2 addD (wCall (S__law_word W) (wCons (wVar 0) (wCons (wCall (S__law_any W) (wCons (wVar 0) (wCons (wDat (wLst (wCons (wC (.str [97])) (wCons (wC (.str [97, 98])) (wCons (wC (.str [97, 98, 99])) wNil))))) wNil))) (wCons (wC (.int 5)) wNil)))) (wC (.str [97]))) (wMD (wC (.str [])) wMNil))) (wSeq (wFor (wRange1 (wOp2 addD (wC (.int 1)) (wCall (S__law_draw W) (wCons (wVar 0) (wCons (wC (.int 4)) wNil))))) (wN 3) (wAsg (wN 2) (wOp2 addD (wVar 2) (wMt isStr gJoin (wC (.str [])) (wCons (wCall (S__law_shuffled W) (wCons (wVar 0) (wCons (wVar 1) wNil))) wNil))))) (wRet (wOp2 addD (wVar 2) (wSl (wMt isStr gJoin (wC (.str [])) (wCons (wCall (S__law_shuffled W) (wCons (wVar 0) (wCons (wVar 1) wNil))) wNil)) wNo (wSm (wCall (S__law_draw W) (wCons (wVar 0) (wCons (wCB lenD (wCons (wVar 1) wNil)) wNil))))))))
theorem join_sgs {s : List Nat} {Q : PD} (h : s.length ≤ 2000) (q : Q (.str s)) : gJoin (.str []) [.lst (sgs s)] Q := by
  refine gJoin_1 (f := fun c => c) (by omega) ?_
  rw [List.map_id']
  exact q
theorem h__law_made {W : Wd} : ∀ ds Q Y, ds.length = 1 → S__law_made W ds Q Y → b__law_made W (startE N__law_made ds) (dRet Q) Y := by
  intro ds Q Y hl h
  unfold S__law_made at h
  split at h <;> try exact h.elim
  rename_i h0
  obtain ⟨rfl, h⟩ := h
  have hsz : sizeLine = 16777216 := rfl
  refine ⟨_, rfl, _, rfl, le_d rfl, rfl, le_d rfl, le_d rfl, fun d hd => ?_⟩
  have hd' : ∃ t : List Nat, d = .str t ∧ 1 ≤ t.length ∧ t.length ≤ 3 ∧ ∀ c ∈ t, c ∈ [97, 98, 99] := by
    simp only [itsOf, List.mem_cons, List.not_mem_nil, or_false] at hd
    rcases hd with rfl | rfl | rfl
    · exact ⟨_, rfl, by decide, by decide, by decide⟩
    · exact ⟨_, rfl, by decide, by decide, by decide⟩
    · exact ⟨_, rfl, by decide, by decide, by decide⟩
  obtain ⟨t, rfl, t1, t2, t3⟩ := hd'
  refine ⟨rfl, t1, by omega, by decide, by decide, fun s sl sc => ?_⟩
  have sl : s.length ≤ 5 := sl
  have hs : ab3 s 5 := ⟨sl, fun c hc => t3 c (sc c hc)⟩
  refine ⟨by show s.length + 1 ≤ _; omega, _, _, rfl, by decide, ?_⟩
  have hp : ab3 (s ++ [97]) 6 := ab3_app hs (show ab3 [97] 1 from ⟨Nat.le_refl 1, by decide⟩)
  have hp1 : 1 ≤ (s ++ [97]).length := by rw [List.length_append]; exact Nat.le_add_left 1 _
  generalize s ++ [97] = p at *
  have hpl := hp.1
  refine ⟨_, rfl, 4, rfl, by decide, by decide, fun r r1 r2 => ⟨1 + r, rfl, by omega, by omega, ?_⟩⟩
  rw [rangeD_z]
  refine for_run (f := fun i : Nat => D.int (i : Int)) (st := fun (a : List Nat) (x : Sl) => [.dt (hdD W), .dt (.str p), .dt (.str a), x]) (sb := fun a x i => [.dt (hdD W), .dt (.str p), .dt (.str a), .dt (.int (i : Int))])
    (P := fun q r2 a => q ++ r2 = List.range (1 + r).toNat ∧ ab3 a (q.length * 6)) _ (fun a x c Q q => q) (fun q c r2 a x D' hP e3 e4 k => ?_) (fun q a x hP => ?_) [] .non ⟨rfl, Nat.le_refl _, fun c hc => by simp at hc⟩
  · obtain ⟨hq, ha⟩ := hP
    obtain ⟨rfl, hql⟩ := rg_at hq
    have hql : q.length < 5 := by omega
    have hal := ha.1
    refine ⟨_, rfl, ⟨_, rfl⟩, _, rfl, _, rfl, rfl, by omega, fun s2 sp => join_sgs (by rw [sp.length_eq]; omega) ?_⟩
    refine ⟨by rw [sp.length_eq]; omega, ?_⟩
    refine (k (a ++ s2) (.dt (.int (q.length : Int))) ⟨by rw [← hq]; simp, ?_⟩).1
    rw [List.length_append, List.length_singleton, Nat.succ_mul]
    exact ab3_app ha (ab3_perm hp sp)
  · obtain ⟨hq, ha⟩ := hP
    rw [List.append_nil] at hq
    subst hq
    rw [List.length_range] at ha
    have ha24 : ab3 a 24 := ab3_mono ha (by omega)
    have hal := ha24.1
    refine ⟨_, rfl, ⟨_, rfl⟩, _, rfl, _, rfl, rfl, by omega, fun s2 sp => join_sgs (by rw [sp.length_eq]; omega) ?_⟩
    refine ⟨_, rfl, _, rfl, by omega, (p.length : Int), rfl, by omega, by omega, fun u u1 u2 => ?_⟩
    refine ⟨_, rfl, by rw [sp.length_eq]; omega, ?_⟩
    rw [cutD_to u1]
    have h2 := ab3_take (k := u.toNat) (ab3_perm hp sp)
    refine ⟨by have := h2.1; omega, h _ (ab3_mono (ab3_app ha24 h2) (by decide))⟩
def S__law_near (W : Wd) : SpecD
  | [h, .str w], Q, _ => h = hdD W ∧ w.length ≤ 300 ∧ okS w ∧ ∀ ds : List D, ds.length ≤ 100 → (∀ d ∈ ds, vrs d) → Q (.lst ds)
  | _, _, _ => False
theorem m__law_near {W : Wd} : MonoD (S__law_near W) := by
  intro ds Q Q' X X' z y h
  unfold S__law_near at h ⊢
  split at h <;> first | exact h.elim | exact ⟨h.1, h.2.1, h.2.2.1, (fun h a0 a1 a2 => (z _) (h a0 a1 a2)) h.2.2.2⟩
abbrev N__law_near : List Str := ["hand", "word", "told", "size", "some", "turn"]
def b__law_near (W : Wd) : WS := wSeq (wPar 2 3 (wMD (wCall S__law_double (wCons (wVar 1) wNil)) (wMD (wCB lenD (wCons (wVar 1) wNil)) wMNil))) (wSeq (wAsgF 4 (wLst (wCons (wVar 2) (wCons (wC .non) (wCons (wTup wNil) (wCons (wTup (wCons (wC (.int 0)) (wCons (wC (.int 1)) wNil))) (wCons (wTup (wCons (wC (.int 0)) wNil)) (wCons (wTup (wCons (wC (.int 0)) (wCons (wC (.int 1)) (wCons (wC (.int 2)) wNil)))) (wCons (wDat (wLst (wCons (wC (.int 0)) (wCons (wC (.int 1)) wNil)))) (wCons (wTup (wCons (wC (.bl true)) (wCons (wC (.int 1)) wNil))) (wCons (wTup (wCons (wC (.int 0)) (wCons (wC (.bl true)) wNil))) (wCons (wTup (wCons (wC (.str [48])) (wCons (wC (.int 1)) wNil))) (wCons (wC (.int 0)) (wCons (wC (.dct [] [])) (wCons (wTup (wCons (wOp1 (gU fun i => .int (-i)) (wC (.int 1))) (wCons (wC (.int 1)) wNil))) wNil))))))))))))))) (wSeq (wApp 4 (wCall (S__law_deep W) (wCons (wVar 0) wNil))) (wSeq (wFor (wRange1 (wC (.int 6))) (wN 5) (wApp 4 (wTup (wCons (wCall (S__law_draw W) (wCons (wVar 0) (wCons (wOp2 addD (wVar 3) (wC (.int 1))) wNil))) (wCons (wCall (S__law_draw W) (wCons (wVar 0) (wCons (wOp2 addD (wOp2 (gI CDivN fun i j => .int (i.fdiv j)) (wVar 3) (wC (.int 2))) (wC (.int 2))) wNil))) wNil))))) (wFrz 4 (wRet (wOp2 addD (wVar 4) (wDat (wLst (wCons (wTup (wCons (wC (.int 0)) (wCons (wC (.int 0)) wNil))) (wCons (wTup (wCons (wC (.int 0)) (wCons (wVar 3) wNil))) (wCons (wTup (wCons (wVar 3) (wCons (wC (.int 1)) wNil))) (wCons (wTup (wCons (wC (.int 1)) (wCons (wOp2 (gI CPow fun i j => .int (i ^ j.toNat)) (wC (.int 10)) (wC (.int 30))) wNil))) wNil))))))))))))
theorem deep_vrs {d : D} (h : deepOk d) : vrs d := by
  cases d with
  | tup ds => exact ⟨Nat.le_trans h.1 (by decide), h.2⟩
  | lst ds => rfl
  | dct ds es => rfl
  | _ => exact h.elim
theorem vt {ds : List D} (h : ds.length ≤ 1000) (q : ds.all (fun x => !isVr x) = true) : vrs (.tup ds) := ⟨h, fun x hx => by
  have := List.all_eq_true.mp q x hx
  simpa using this⟩
theorem FD_vrs {w : List Nat} {d : D} (h : FD w d) : vrs d := by
  rcases h with ⟨rfl, _⟩ | ⟨e, k, _, _, _, rfl⟩
  · rfl
  · exact vt (by show 2 ≤ 1000; decide) rfl
theorem h__law_near {W : Wd} : ∀ ds Q Y, ds.length = 2 → S__law_near W ds Q Y → b__law_near W (startE N__law_near ds) (dRet Q) Y := by
  intro ds Q Y hl h
  unfold S__law_near at h
  split at h <;> try exact h.elim
  rename_i h0 w
  obtain ⟨rfl, h1, o, h⟩ := h
  have hsz : sizeLine = 16777216 := rfl
  have hz : w.length ≤ sizeLine := by omega
  refine ⟨_, rfl, h1, o, fun told ht => ?_⟩
  have vt0 := FD_vrs ht
  refine ⟨_, rfl, hz, _, _, rfl, by decide, ?_⟩
  refine ⟨_, rfl, le_d rfl, le_d rfl, le_d rfl, le_d rfl, le_d rfl, le_d rfl, le_d rfl, le_d rfl, _, rfl, le_d rfl, le_d rfl, ?_⟩
  refine ⟨_, rfl, _, rfl, rfl, fun e he => ⟨le_d rfl, ?_⟩⟩
  have hb : ∀ d ∈ [told, .non, .tup [], .tup [.int 0, .int 1], .tup [.int 0], .tup [.int 0, .int 1, .int 2], .lst [.int 0, .int 1], .tup [.bl true, .int 1], .tup [.int 0, .bl true], .tup [.str [48], .int 1], .int 0, .dct [] [], .tup [.int (-1), .int 1]] ++ [e], vrs d := fun d hd => by
    simp only [List.mem_append, List.mem_cons, List.not_mem_nil, or_false] at hd
    rcases hd with (rfl | rfl | rfl | rfl | rfl | rfl | rfl | rfl | rfl | rfl | rfl | rfl | rfl) | rfl
    · exact vt0
    · rfl
    · exact vt (by decide) rfl
    · exact vt (by decide) rfl
    · exact vt (by decide) rfl
    · exact vt (by decide) rfl
    · rfl
    · exact vt (by decide) rfl
    · exact vt (by decide) rfl
    · exact vt (by decide) rfl
    · rfl
    · rfl
    · exact vt (by decide) rfl
    · exact deep_vrs he
  have hl : ([told, .non, .tup [], .tup [.int 0, .int 1], .tup [.int 0], .tup [.int 0, .int 1, .int 2], .lst [.int 0, .int 1], .tup [.bl true, .int 1], .tup [.int 0, .bl true], .tup [.str [48], .int 1], .int 0, .dct [] [], .tup [.int (-1), .int 1]] ++ [e]).length = 14 := rfl
  refine ⟨6, rfl, by decide, by decide, ?_⟩
  rw [rangeD_z]
  refine for_run (f := fun i : Nat => D.int (i : Int)) (st := fun (a : List D) (x : Sl) => [.dt (hdD W), .dt (.str w), .dt told, .dt (.int (w.length : Int)), .ow a, x]) (sb := fun a x i => [.dt (hdD W), .dt (.str w), .dt told, .dt (.int (w.length : Int)), .ow a, .dt (.int (i : Int))])
    (P := fun p r a => p ++ r = List.range (6 : Int).toNat ∧ a.length = 14 + p.length ∧ ∀ d ∈ a, vrs d) _ (fun a x c Q q => q) (fun p c r a x D' hP e3 e4 k => ?_) (fun p a x hP => ?_) _ .non ⟨rfl, hl, hb⟩
  · obtain ⟨hp, hl, ha⟩ := hP
    obtain ⟨rfl, hpl⟩ := rg_at hp
    have hpl : p.length < 6 := hpl
    have hd : ((w.length : Nat) : Int).fdiv 2 = ((w.length / 2 : Nat) : Int) := fd_n (b := 2)
    refine ⟨_, rfl, _, rfl, _, rfl, (w.length : Int) + 1, rfl, by omega, by omega, fun u u1 u2 => ?_⟩
    refine ⟨_, rfl, _, rfl, _, _, rfl, rfl, ⟨by omega, by omega⟩, ((w.length / 2 : Nat) : Int) + 2, by rw [← hd], by omega, by omega, fun v v1 v2 => ?_⟩
    refine ⟨le_d rfl, by omega, ?_⟩
    refine (k (a ++ [.tup [.int u, .int v]]) (.dt (.int (p.length : Int))) ⟨by rw [← hp]; simp, by rw [List.length_append, List.length_append, hl]; rfl, fun d hd => ?_⟩).1
    rcases List.mem_append.mp hd with z | z
    · exact ha d z
    · rw [List.mem_singleton.mp z]; exact vt (by show 2 ≤ 1000; decide) rfl
  · obtain ⟨hp, hl, ha⟩ := hP
    rw [List.append_nil] at hp
    subst hp
    rw [List.length_range] at hl
    have hl : a.length = 20 := hl
    refine ⟨_, rfl, _, rfl, le_d rfl, _, rfl, le_d rfl, _, rfl, le_d rfl, _, _, rfl, rfl, ⟨by decide, by decide, by decide⟩, le_d rfl, le_d rfl, ?_⟩
    refine ⟨by show a.length + 4 ≤ _; omega, h _ (by rw [List.length_append, hl]; show 20 + 4 ≤ 100; decide) fun d hd => ?_⟩
    rcases List.mem_append.mp hd with z | z
    · exact ha d z
    · simp only [List.mem_cons, List.not_mem_nil, or_false] at z
      rcases z with rfl | rfl | rfl | rfl
      · exact vt (by show 2 ≤ 1000; decide) rfl
      · exact vt (by show 2 ≤ 1000; decide) rfl
      · exact vt (by show 2 ≤ 1000; decide) rfl
      · exact vt (by show 2 ≤ 1000; decide) rfl
end LK
/-! a word is right -/
namespace LK
open PySem PySem.Spec PyProof.Rows L2 DL
def S__law_is_right (W : Wd) : SpecD
  | [h, .str w], Q, _ => h = hdD W ∧ ab3 w 40 ∧ Q (.bl true)
  | _, _, _ => False
theorem m__law_is_right {W : Wd} : MonoD (S__law_is_right W) := by
  intro ds Q Q' X X' z y h
  unfold S__law_is_right at h ⊢
  split at h <;> first | exact h.elim | exact ⟨h.1, h.2.1, (z _) h.2.2⟩
abbrev N__law_is_right : List Str := ["hand", "word", "due", "turn", "thing", "size", "mixed", "other", "at", "part", "counts"]
def bt__law_is_right_11 (W : Wd) : WS := wRet (wC (.bl true))
def bt__law_is_right_10 (W : Wd) : WS := wSeq (wFor (wItems (wDat (wLst (wCons (wCall S__law_counts (wCons (wVar 9) (wCons (wC (.int 3)) wNil))) (wCons (wCall S__law_counts (wCons (wVar 7) (wCons (wC (.int 2)) wNil))) (wCons (wCall S__law_counts (wCons (wOp2 addD (wVar 9) (wC (.str [99]))) (wCons (wC (.int 4)) wNil))) (wCons (wTup (wCons (wC (.int 0)) wNil)) (wCons (wTup (wCons (wC (.int 0)) (wCons (wC (.int 2000)) wNil))) wNil)))))))) (wN 10) (wIf (wNotT (wIs (wCall S__law_is (wCons (wCall S_counts_met (wCons (wVar 1) (wCons (wVar 10) wNil))) (wCons (wCall S__law_met (wCons (wVar 1) (wCons (wVar 10) wNil))) wNil))))) (wRet (wC (.bl false))) wNext)) (bt__law_is_right_11 W)
def bt__law_is_right_9 (W : Wd) : WS := wSeq (wAsg (wN 9) (wSl (wVar 1) (wSm (wVar 8)) (wSm (wOp2 addD (wVar 8) (wCall (S__law_draw W) (wCons (wVar 0) (wCons (wOp2 addD (wCB lenD (wCons (wVar 1) wNil)) (wC (.int 1))) wNil))))))) (bt__law_is_right_10 W)
def bt__law_is_right_8 (W : Wd) : WS := wSeq (wAsg (wN 8) (wCall (S__law_draw W) (wCons (wVar 0) (wCons (wOp2 addD (wCB lenD (wCons (wVar 1) wNil)) (wC (.int 1))) wNil)))) (bt__law_is_right_9 W)
def bt__law_is_right_7 (W : Wd) : WS := wSeq (wIf (wNotT (wIs (wCall S__law_is (wCons (wDat (wLst (wCons (wCall S_same_letters (wCons (wVar 1) (wCons (wVar 6) wNil))) (wCons (wCall S_same_letters (wCons (wVar 1) (wCons (wVar 7) wNil))) wNil)))) (wCons (wDat (wLst (wCons (wC (.bl true)) (wCons (wCall S__law_are_same (wCons (wVar 1) (wCons (wVar 7) wNil))) wNil)))) wNil))))) (wRet (wC (.bl false))) wNext) (bt__law_is_right_8 W)
def bt__law_is_right_6 (W : Wd) : WS := wSeq (wPar 6 7 (wMD (wMt isStr gJoin (wC (.str [])) (wCons (wCall (S__law_shuffled W) (wCons (wVar 0) (wCons (wVar 1) wNil))) wNil)) (wMD (wCall (S__law_word W) (wCons (wVar 0) (wCons (wC (.str [97, 98])) (wCons (wCB lenD (wCons (wVar 1) wNil)) wNil)))) wMNil))) (bt__law_is_right_7 W)
def bt__law_is_right_5 (W : Wd) : WS := wSeq (wIf (wNotT (wIs (wCall S__law_is (wCons (wDat (wLst (wCons (wCall S_least_sum_period (wCons (wVar 1) wNil)) (wCons (wOp2 (gI0 fun i j => .bl (decide (i ≤ j))) (wVar 5) (wCB lenD (wCons (wVar 1) wNil))) wNil)))) (wCons (wDat (wLst (wCons (wVar 5) (wCons (wC (.bl true)) wNil)))) wNil))))) (wRet (wC (.bl false))) wNext) (bt__law_is_right_6 W)
def bt__law_is_right_4 (W : Wd) : WS := wSeq (wAsg (wN 5) (wCall S__law_period (wCons (wVar 1) wNil))) (bt__law_is_right_5 W)
def bt__law_is_right_3 (W : Wd) : WS := wSeq (wIf (wIs (wOp2 (gEq true) (wDat (wLst (wCons (wDat (wCF listA (wCons (wCall S_sum_sizes (wCons (wVar 1) wNil)) wNil))) (wCons (wDat (wCF listA (wCons (wCall S_sum_sizes (wCons (wVar 3) wNil)) wNil))) wNil)))) (wOp2 mulD (wDat (wLst (wCons (wCall S__law_sizes (wCons (wVar 1) wNil)) wNil))) (wC (.int 2))))) (wRet (wC (.bl false))) wNext) (bt__law_is_right_4 W)
def bt__law_is_right_2 (W : Wd) : WS := wSeq (wIf (wNotT (wIs (wCB allD (wCons (wDat (wLc (wItems (wCall (S__law_near W) (wCons (wVar 0) (wCons (wVar 1) wNil)))) (wN 4) wYes (wCall S__law_is (wCons (wCall S_is_double (wCons (wVar 1) (wCons (wVar 4) wNil))) (wCons (wCall S__law_is_double (wCons (wVar 1) (wCons (wVar 4) wNil))) wNil))) [4])) wNil)))) (wRet (wC (.bl false))) wNext) (bt__law_is_right_3 W)
def bt__law_is_right_1 (W : Wd) : WS := wSeq (wIf (wNotT (wIs (wCall S__law_is (wCons (wDat (wLst (wCons (wCall S_first_double (wCons (wVar 1) wNil)) (wCons (wOp2 (gIsN false) (wCall S_first_double (wCons (wVar 3) wNil)) (wC .non)) wNil)))) (wCons (wDat (wLst (wCons (wVar 2) (wCons (wOp2 (gIsN false) (wVar 2) (wC .non)) wNil)))) wNil))))) (wRet (wC (.bl false))) wNext) (bt__law_is_right_2 W)
def b__law_is_right (W : Wd) : WS := wSeq (wPar 2 3 (wMD (wCall S__law_double (wCons (wVar 1) wNil)) (wMD (wSl3 (wVar 1) wNo wNo (wSm (wOp1 (gU fun i => .int (-i)) (wC (.int 1))))) wMNil))) (bt__law_is_right_1 W)
section
variable {W : Wd} {Q : PD} {Y : PX} {w part other mixed : List Nat} {x2 x3 x4 x5 x6 x7 x8 x9 x10 : Sl}
theorem is_same {d : D} {Q : PD} {Y : PX} (h : okI 4 d) (q : Q (.bl true)) : S__law_is [d, d] Q Y := ⟨d, rfl, h, q⟩
theorem cts_len {x : List Nat} {m : Nat} (h : m ≤ 26) : (cts x m).length = m := by
  unfold cts
  rw [List.length_map, List.length_take]
  show min m 26 = m
  omega
theorem cts_le {x : List Nat} {m : Nat} : ∀ c ∈ cts x m, c ≤ x.length := fun c hc => by
  unfold cts at hc
  obtain ⟨y, _, rfl⟩ := List.mem_map.mp hc
  exact List.count_le_length
theorem CM_okI {w cs : List Nat} {d : D} (h : CM w cs d) : okI 4 d := by
  rcases h with ⟨rfl, _⟩ | ⟨i, _, _, _, rfl⟩ <;> trivial
theorem nts_ctsOk {cs : List Nat} (h1 : 1 ≤ cs.length) (h2 : cs.length ≤ 26) (h3 : ∀ c ∈ cs, c ≤ 2000) : ctsOk (.tup (nts cs)) = true := by
  show (decide (1 ≤ (nts cs).length ∧ (nts cs).length ≤ 26) && (nts cs).all (fun x => withinD x 0 2000)) = true
  have lc : (nts cs).length = cs.length := List.length_map ..
  rw [lc, decide_eq_true ⟨h1, h2⟩, Bool.true_and, List.all_eq_true]
  intro x hx
  obtain ⟨n, hn, rfl⟩ := List.mem_map.mp hx
  have := h3 n hn
  unfold withinD
  simp
  omega
theorem natsOf_nts {cs : List Nat} : natsOf (.tup (nts cs)) = cs := by
  show (nts cs).map natD = cs
  unfold nts
  rw [List.map_map]
  conv => rhs; rw [← List.map_id cs]
  exact List.map_congr_left fun n _ => by show ((n : Int)).toNat = n; exact Int.toNat_natCast n
/-- the program and the law on counts -/
theorem met_both {cs : List Nat} {env : Env1} {R : PD} (hw : ab3 w 40) (h1 : 1 ≤ cs.length) (h2 : cs.length ≤ 26) (h3 : ∀ c ∈ cs, c ≤ 2000) (e1 : env[1]? = some (.dt (.str w))) (e2 : env[10]? = some (.dt (.tup (nts cs)))) (q : R (.bl true)) :
    wCall S__law_is (wCons (wCall S_counts_met (wCons (wVar 1) (wCons (wVar 10) wNil))) (wCons (wCall S__law_met (wCons (wVar 1) (wCons (wVar 10) wNil))) wNil)) env R Y := by
  have hww := ab3_word (ab3_mono hw (by decide))
  have hv : vrs (.tup (nts cs)) := ⟨by show (nts cs).length ≤ 1000; rw [List.length_map]; omega, fun x hx => by obtain ⟨n, _, rfl⟩ := List.mem_map.mp hx; rfl⟩
  refine ⟨_, e1, _, e2, word_okv hww, hv, itePos hww (itePos (nts_ctsOk h1 h2 h3) ?_)⟩
  rw [natsOf_nts]
  intro r hr
  refine ⟨_, e1, _, e2, by have := hw.1; omega, ab3_ok hw, cs, rfl, h2, h3, fun r2 hr2 => ?_⟩
  rw [CM_uniq hr2 hr]
  exact is_same (CM_okI hr) q
theorem n10 (hw : ab3 w 40) (hp : part.length ≤ 40) (op : okS part) (ho : other.length ≤ 40) (oo : okS other) (q : Q (.bl true)) :
    bt__law_is_right_10 W [.dt (hdD W), .dt (.str w), x2, x3, x4, x5, x6, .dt (.str other), x8, .dt (.str part), x10] (dRet Q) Y := by
  have hsz : sizeLine = 16777216 := rfl
  refine ⟨_, rfl, by omega, op, by decide, by decide, _, rfl, by omega, oo, by decide, by decide, _, rfl, by show part.length + 1 ≤ _; omega, by rw [List.length_append]; show _ + 1 ≤ _; omega, ?_, by decide, by decide, le_d rfl, le_d rfl, le_d rfl, ?_⟩
  · intro c hc
    rcases List.mem_append.mp hc with z | z
    · exact op c z
    · rw [List.mem_singleton.mp z]; decide
  show forRun _ _ ([cts part 3, cts other 2, cts (part ++ [99]) 4, [0], [0, 2000]].map fun cs => D.tup (nts cs)) _ _ _
  refine for_run (f := fun cs => D.tup (nts cs)) (st := fun (_ : Unit) (x : Sl) => [.dt (hdD W), .dt (.str w), x2, x3, x4, x5, x6, .dt (.str other), x8, .dt (.str part), x]) (sb := fun _ x cs => [.dt (hdD W), .dt (.str w), x2, x3, x4, x5, x6, .dt (.str other), x8, .dt (.str part), .dt (.tup (nts cs))])
    (P := fun p r _ => ∀ cs ∈ r, (1 ≤ cs.length ∧ cs.length ≤ 26) ∧ ∀ c ∈ cs, c ≤ 2000) _ (fun a x c Q q => q) (fun p cs r _ x D' hP e3 e4 k => ?_) (fun p _ x hP => q) () x10 (fun cs hcs => ?_)
  · obtain ⟨⟨h1, h2⟩, h3⟩ := hP cs List.mem_cons_self
    exact met_both hw h1 h2 h3 rfl rfl ⟨_, rfl, iteNeg (by decide) (k () _ (fun c hc => hP c (List.mem_cons_of_mem _ hc))).1⟩
  · simp only [List.mem_cons, List.not_mem_nil, or_false] at hcs
    rcases hcs with rfl | rfl | rfl | rfl | rfl
    · exact ⟨by rw [cts_len (by decide)]; decide, fun c hc => by have := cts_le c hc; omega⟩
    · exact ⟨by rw [cts_len (by decide)]; decide, fun c hc => by have := cts_le c hc; omega⟩
    · exact ⟨by rw [cts_len (by decide)]; decide, fun c hc => by have := cts_le c hc; rw [List.length_append] at this; have : ([99] : List Nat).length = 1 := rfl; omega⟩
    · exact ⟨by decide, fun c hc => by simp at hc; omega⟩
    · exact ⟨by decide, fun c hc => by simp at hc; omega⟩
theorem n8 (hw : ab3 w 40) (ho : other.length ≤ 40) (oo : okS other) (q : Q (.bl true)) :
    bt__law_is_right_8 W [.dt (hdD W), .dt (.str w), x2, x3, x4, x5, x6, .dt (.str other), x8, x9, x10] (dRet Q) Y := by
  have hsz : sizeLine = 16777216 := rfl
  have hl := hw.1
  refine ⟨_, rfl, _, rfl, by omega, (w.length : Int) + 1, rfl, by omega, by omega, fun u u1 u2 => ?_⟩
  refine ⟨_, rfl, _, rfl, _, rfl, _, rfl, _, rfl, _, rfl, by omega, (w.length : Int) + 1, rfl, by omega, by omega, fun v v1 v2 => ?_⟩
  refine ⟨u + v, rfl, by omega, ?_⟩
  have e : cutD w (some u) (some (u + v)) = wd w u.toNat v.toNat := cut_wd (by omega) (by omega)
  rw [e]
  exact n10 hw (Nat.le_trans wd_len_le hl) (wd_ok (ab3_ok hw)) ho oo q
theorem n7 (hw : ab3 w 40) (hm : mixed.Perm w) (ho : ab3 other 40) (q : Q (.bl true)) :
    bt__law_is_right_7 W [.dt (hdD W), .dt (.str w), x2, x3, x4, x5, .dt (.str mixed), .dt (.str other), x8, x9, x10] (dRet Q) Y := by
  have ww := ab3_word (ab3_mono hw (by decide))
  have wm := ab3_word (ab3_mono (ab3_perm hw hm) (by decide))
  have wo := ab3_word (ab3_mono ho (by decide))
  have hl := hw.1
  have hol := ho.1
  refine ⟨_, rfl, _, rfl, word_okv ww, word_okv wm, itePos ww (itePos wm ?_)⟩
  rw [show decide ((strOf (.str w)).Perm (strOf (.str mixed))) = true from decide_eq_true hm.symm]
  refine ⟨_, rfl, _, rfl, word_okv ww, word_okv wo, itePos ww (itePos wo ⟨le_d rfl, ?_⟩)⟩
  refine ⟨_, rfl, _, rfl, by omega, by omega, ab3_ok hw, ab3_ok ho, le_d rfl, ?_⟩
  refine is_same ⟨le_d rfl, fun x hx => ?_⟩ ⟨_, rfl, iteNeg (by decide) (n8 hw hol (ab3_ok ho) q)⟩
  simp only [List.mem_cons, List.not_mem_nil, or_false] at hx
  rcases hx with rfl | rfl <;> trivial
theorem n6 (hw : ab3 w 40) (q : Q (.bl true)) :
    bt__law_is_right_6 W [.dt (hdD W), .dt (.str w), x2, x3, x4, x5, x6, x7, x8, x9, x10] (dRet Q) Y := by
  have hsz : sizeLine = 16777216 := rfl
  have hl := hw.1
  refine ⟨⟨_, rfl⟩, _, rfl, _, rfl, rfl, by omega, fun s hs => join_sgs (by rw [hs.length_eq]; omega) ?_⟩
  refine ⟨_, rfl, _, rfl, by omega, rfl, by decide, by decide, by omega, by omega, fun t tl tc => ?_⟩
  have tl : t.length ≤ w.length := by rw [Int.toNat_natCast] at tl; exact tl
  refine ⟨_, _, rfl, by decide, ?_⟩
  refine n7 hw hs ⟨by omega, fun c hc => ?_⟩ q
  have := tc c hc
  simp at this ⊢
  omega
theorem n5 {p : Nat} (hw : ab3 w 40) (hp : PR w p) (q : Q (.bl true)) :
    bt__law_is_right_5 W [.dt (hdD W), .dt (.str w), x2, x3, x4, .dt (.int (p : Int)), x6, x7, x8, x9, x10] (dRet Q) Y := by
  have hsz : sizeLine = 16777216 := rfl
  have hl := hw.1
  have ww := ab3_word (ab3_mono hw (by decide))
  refine ⟨_, rfl, word_okv ww, itePos ww (iteNeg (show ¬ 300 < w.length by omega) fun p' hp' => ?_)⟩
  rw [PR_uniq hp' hp]
  refine ⟨_, rfl, _, rfl, by omega, _, _, rfl, rfl, le_d rfl, ?_⟩
  dsimp only
  rw [decide_eq_true (show (p : Int) ≤ (w.length : Int) by have := PR_le hp; omega)]
  refine ⟨_, rfl, le_d rfl, ?_⟩
  refine is_same ⟨le_d rfl, fun x hx => ?_⟩ ⟨_, rfl, iteNeg (by decide) (n6 hw q)⟩
  simp only [List.mem_cons, List.not_mem_nil, or_false] at hx
  rcases hx with rfl | rfl <;> trivial
theorem n4 (hw : ab3 w 40) (q : Q (.bl true)) :
    bt__law_is_right_4 W [.dt (hdD W), .dt (.str w), x2, x3, x4, x5, x6, x7, x8, x9, x10] (dRet Q) Y :=
  ⟨_, rfl, by have := hw.1; omega, ab3_ok hw, fun p hp => n5 hw hp q⟩
theorem rev_ab {n : Nat} (hw : ab3 w n) : ab3 w.reverse n := ab3_perm hw (List.reverse_perm w)
theorem n3 (hw : ab3 w 40) (q : Q (.bl true)) :
    bt__law_is_right_3 W [.dt (hdD W), .dt (.str w), x2, .dt (.str w.reverse), x4, x5, x6, x7, x8, x9, x10] (dRet Q) Y := by
  have hsz : sizeLine = 16777216 := rfl
  have hl := hw.1
  have ww := ab3_word (ab3_mono hw (by decide))
  have wr := ab3_word (ab3_mono (rev_ab hw) (by decide))
  refine ⟨_, rfl, word_okv ww, itePos ww (iteNeg (show ¬ 300 < w.length by omega) fun ks hk => ?_)⟩
  refine ⟨_, rfl, word_okv wr, itePos wr (iteNeg (show ¬ 300 < w.reverse.length by rw [List.length_reverse]; omega) fun ks2 hk2 => ?_)⟩
  rw [SZ_uniq (SZ_rev hk2) hk]
  refine ⟨le_d rfl, ?_⟩
  refine ⟨_, rfl, by omega, ab3_ok hw, fun ks3 hk3 => ?_⟩
  rw [SZ_uniq hk3 hk]
  refine ⟨le_d rfl, by decide, by decide, by show 1 * 2 ≤ sizeLine; decide, ?_⟩
  have lay : layD (.lst [.lst (nts ks), .lst (nts ks)]) = true := by
    unfold layD
    exact layDs_map (f := fun k => D.lst (nts k)) [ks, ks] fun k _ => by unfold layD; exact layDs_map k fun n _ => rfl
  have ok : okD (.lst [.lst (nts ks), .lst (nts ks)]) = true := okD_of lay (by
    unfold dpD
    have := dpDs_map (f := fun k => D.lst (nts k)) (n := 1) [ks, ks] (fun k _ => by
      unfold dpD
      have := dpDs_map (f := fun n : Nat => D.int (n : Int)) (n := 0) k (fun _ _ => Nat.le_refl _)
      show dpDs (k.map fun n : Nat => D.int (n : Int)) + 1 ≤ 1
      omega)
    show dpDs ([ks, ks].map fun k => D.lst (nts k)) + 1 ≤ 64
    omega)
  refine ⟨ok, ok, _, rfl, iteNeg (ne_no lay) (n4 hw q)⟩
theorem n2 (hw : ab3 w 40) (q : Q (.bl true)) :
    bt__law_is_right_2 W [.dt (hdD W), .dt (.str w), x2, .dt (.str w.reverse), x4, x5, x6, x7, x8, x9, x10] (dRet Q) Y := by
  have hsz : sizeLine = 16777216 := rfl
  have hl := hw.1
  have ww := ab3_word (ab3_mono hw (by decide))
  refine ⟨_, rfl, _, rfl, rfl, by omega, ab3_ok hw, fun ds hds hv => ⟨by omega, fun X' => ?_⟩⟩
  rw [← List.map_id ds]
  refine lc_map (f := id) (g := fun d => D.bl true) (fun d hd K hK => ?_) ?_
  · exact ⟨_, rfl, _, rfl, word_okv ww, hv d hd, itePos ww ⟨_, rfl, _, rfl, by omega, ab3_ok hw, hv d hd, is_same trivial hK⟩⟩
  refine allD_map (p := fun _ : D => true) ⟨_, rfl, ?_⟩
  rw [List.all_eq_true.mpr fun _ _ => rfl]
  exact iteNeg (by decide) (n3 hw q)
theorem FD_okI {w : List Nat} {d : D} (h : FD w d) : okI 3 d := by
  rcases h with ⟨rfl, _⟩ | ⟨e, k, _, _, _, rfl⟩
  · trivial
  · refine ⟨le_d rfl, fun x hx => ?_⟩
    simp only [List.mem_cons, List.not_mem_nil, or_false] at hx
    rcases hx with rfl | rfl <;> trivial
theorem n1 {due : D} (hw : ab3 w 40) (hd : FD w due) (q : Q (.bl true)) :
    bt__law_is_right_1 W [.dt (hdD W), .dt (.str w), .dt due, .dt (.str w.reverse), x4, x5, x6, x7, x8, x9, x10] (dRet Q) Y := by
  have hsz : sizeLine = 16777216 := rfl
  have hl := hw.1
  have ww := ab3_word (ab3_mono hw (by decide))
  have wr := ab3_word (ab3_mono (rev_ab hw) (by decide))
  refine ⟨_, rfl, word_okv ww, itePos ww (iteNeg (show ¬ 300 < w.length by omega) fun r hr => ?_)⟩
  rw [FD_uniq hr hd]
  refine ⟨_, rfl, word_okv wr, itePos wr (iteNeg (show ¬ 300 < w.reverse.length by rw [List.length_reverse]; omega) fun r2 hr2 => ?_)⟩
  have e : isNon r2 = isNon due := by
    have z := FD_rev hd hr2
    have nn : ∀ {w : List Nat} {d : D}, FD w d → (isNon d = true ↔ d = .non) := fun {w d} h => by
      rcases h with ⟨rfl, _⟩ | ⟨e, k, _, _, _, rfl⟩
      · exact ⟨fun _ => rfl, fun _ => rfl⟩
      · exact ⟨fun z => Bool.noConfusion (show false = true from z), fun z => by cases z⟩
    rw [Bool.eq_iff_iff, nn hr2, nn hd]
    exact z
  refine ⟨rfl, le_d rfl, ?_⟩
  rw [if_neg (by decide), e]
  refine ⟨_, rfl, _, rfl, rfl, le_d rfl, ?_⟩
  rw [if_neg (by decide)]
  refine is_same ⟨le_d rfl, fun x hx => ?_⟩ ⟨_, rfl, iteNeg (by decide) (n2 hw q)⟩
  simp only [List.mem_cons, List.not_mem_nil, or_false] at hx
  rcases hx with rfl | rfl
  · exact FD_okI hd
  · trivial
end
theorem h__law_is_right {W : Wd} : ∀ ds Q Y, ds.length = 2 → S__law_is_right W ds Q Y → b__law_is_right W (startE N__law_is_right ds) (dRet Q) Y := by
  intro ds Q Y hl h
  unfold S__law_is_right at h
  split at h <;> try exact h.elim
  rename_i h0 w
  obtain ⟨rfl, hw, h⟩ := h
  have hsz : sizeLine = 16777216 := rfl
  have hl := hw.1
  refine ⟨_, rfl, by omega, ab3_ok hw, fun due hd => ?_⟩
  refine ⟨_, rfl, _, rfl, _, rfl, by decide, fun z => absurd z (by decide), by decide, by rw [pick_rev, List.length_reverse]; omega, ?_⟩
  rw [pick_rev]
  exact ⟨_, _, rfl, by decide, n1 hw hd h⟩
end LK
/-! _law_heard -/
namespace DL
open PySem PySem.Spec PyProof.Rows L2
section
variable {W : Wd} {G0 H0 G G' H H' : Hp} {E : XK} {X : Cx} {k n : Nat}
def wIsE (i : Nat) (a : Addr) (b : Bool) : WE := fun env Q _ => env[i]? = some (.dt (.vr (.ref a))) ∧ Q (.bl b)
def wFld (i : Nat) (a : Addr) (od : Option D) : WE := fun env Q _ => env[i]? = some (.dt (.vr (.ref a))) ∧ ∃ d, od = some d ∧ Q d
theorem de_dead {e : Expr} {i : Nat} {a : Addr} : DE W G0 H0 E X e (wFld i a none) :=
  ⟨(fun env Q Q' Y z ⟨h, d, e, _⟩ => by cases e), (fun _ _ _ => False), ⟨fun _ _ _ _ _ _ h => h.elim⟩, (fun env σ G H Q r ⟨h, d, e, _⟩ => by cases e)⟩
def exaB (K : PySem.W.Frag) (D : Addr) : Bool := (PySem.W.clsIn K D).isSome && decide (PySem.W.findIn K (.ref D) "__getattribute__" = some (some (.builtin "BaseException.__getattribute__"))) && decide (PySem.W.findIn K (.ref D) "__getattr__" = some none) &&
  decide (PySem.W.subIn K (.ref D) (.type "BaseException") = some true) && PySem.W.hasDictIn K D && decide (PySem.W.findIn K (.ref D) "__class__" = some (some (.builtin "object.__class__"))) &&
  decide (PySem.W.specialIn K (.builtin "object.__class__") "__get__" = some (some (.builtin "getset_descriptor.__get__"))) && decide (PySem.W.takesIn K (.builtin "object.__class__") = some true) && decide (PySem.W.mroIn K D (.type "object") = some true)
theorem exa_of {K : PySem.W.Frag} {D : Addr} (h : exaB K D = true) : ExA K D := by
  unfold exaB at h
  simp only [Bool.and_eq_true, decide_eq_true_eq] at h
  obtain ⟨⟨⟨⟨⟨⟨⟨⟨h1, h2⟩, h3⟩, h4⟩, h5⟩, h6⟩, h7⟩, h8⟩, h9⟩ := h
  exact ⟨h1, h2, h3, h4, h5, h6, h7, h8, h9⟩
/-- what is checked of the exception classes: C the class that is caught -/
def exsB (K : PySem.W.Frag) (C : Addr) (ns ms : List Addr) : Bool := ns.all fun a => exaB K a && decide (PySem.W.exmOne K (.ref a) (.ref C) = some true) && decide (PySem.W.kitOne K (.ref a) (.type "ValueError") = some true) &&
  ms.all fun b => decide (PySem.W.kitOne K (.ref a) (.ref b) = some (decide (a = b)))
structure Exs (K : PySem.W.Frag) (C : Addr) (ns ms : List Addr) : Prop where
  a : ∀ a ∈ ns, ExA K a
  m : ∀ a ∈ ns, PySem.W.exmOne K (.ref a) (.ref C) = some true
  v : ∀ a ∈ ns, PySem.W.kitOne K (.ref a) (.type "ValueError") = some true
  k : ∀ a ∈ ns, ∀ b ∈ ms, PySem.W.kitOne K (.ref a) (.ref b) = some (decide (a = b))
theorem exs_of {K : PySem.W.Frag} {C : Addr} {ns ms : List Addr} (h : exsB K C ns ms = true) : Exs K C ns ms := by
  unfold exsB at h
  simp only [Bool.and_eq_true, decide_eq_true_eq, List.all_eq_true] at h
  exact ⟨fun a ha => exa_of (h a ha).1.1.1, fun a ha => (h a ha).1.1.2, fun a ha => (h a ha).1.2, fun a ha b hb => (h a ha).2 b hb⟩
end
end DL
namespace LK
open PySem PySem.Spec PyProof.Rows L2 DL LamX L2H
def topS (i : Nat) : Stmt := PySem.Challenge.pw_wheelwords_k79_whole_doubles_and_sums.main.body.getD i (.Pass ⟨0, 0, 0, 0⟩)
abbrev s__law_heard : Stmt := topS 35
abbrev N__law_heard : List Str := ["call", "error", "some", "said", "word", "is_one"]
theorem sc__law_heard : FnScope N__law_heard ["call"] (defScope s__law_heard) := ⟨rfl, rfl, rfl, by decide +kernel, rfl, by decide +kernel, by decide +kernel⟩
abbrev T_told : D := .str [108, 101, 116]
def exNames : List String := ["BadNumber", "BadWord", "TooMany"]
def flNames : List String := ["BadWord", "BadNumber", "TooMany"]
def okEx (ex : Ex) : Prop := (ex.nm ∈ ["BadNumber", "BadWord"] ∧ ex.ks = [] ∧ ex.ds = []) ∨ (ex.nm = "TooMany" ∧ ex.ks = [Str.ofString "most"] ∧ ∃ d, ex.ds = [d])
def caughtD (ex : Ex) : D := if ex.nm = "BadNumber" then .str [110, 117, 109, 98, 101, 114] else if ex.nm = "BadWord" then .str [119, 111, 114, 100] else .tup [.str [109, 97, 110, 121], ex.ds.headD .non]
def odOf_most (ex : Ex) : Option D := if ex.nm = "TooMany" then ex.ds.head? else none
def S_caught : SpecT := fun th Q => th (fun _ => Q T_told) (fun ex => okEx ex ∧ Q (caughtD ex))
structure CK (W : Wd) (mg : Str → Option Value) : Prop where
  cw : ∃ C, mg "WordError" = some (.ref C) ∧ Exs W.K C (exNames.map W.cls) (flNames.map W.cls)
  inj : ∀ n ∈ exNames, ∀ m ∈ exNames, W.cls n = W.cls m → n = m
  g : ∀ n ∈ exNames, mg (Str.ofString n) = some (.ref (W.cls n))
  xf_TooMany : XfC W.K (W.cls "TooMany")
  no_TooMany : PySem.W.findIn W.K (.ref (W.cls "TooMany")) "most" = some none
  z_isi : mg "isinstance" = none
  z_ve : mg "ValueError" = none
  z_ln : mg "len" = none
def suiteW (a : Addr) (ex : Ex) : WS := wSeq (wAsgF 2 (wLst wNil)) (wSeq (wApp 2 (wTup (wCons (wC (.str [119, 111, 114, 100])) (wCons (wIsE 1 a (decide (ex.nm = "BadWord"))) wNil)))) (wSeq (wApp 2 (wTup (wCons (wC (.str [110, 117, 109, 98, 101, 114])) (wCons (wIsE 1 a (decide (ex.nm = "BadNumber"))) wNil)))) (wSeq (wApp 2 (wTup (wCons (wC (.str [109, 97, 110, 121])) (wCons (wIsE 1 a (decide (ex.nm = "TooMany"))) wNil)))) (wFrz 2 (wSeq (wAsg (wN 3) (wDat (wLc (wItL (wVar 2)) (wGTup 2 (wGCons (wN 4) (wGCons (wN 5) wGNil))) (wAndT (wIs (wVar 5)) (wIs (wIsE 1 a true))) (wVar 4) [4, 5]))) (wSeq (wIf (wIs (wOp2 (gEq true) (wCB lenD (wCons (wVar 3) wNil)) (wC (.int 1)))) (wRet (wC (.str [111, 100, 100]))) wNext) (wRet (wIfE (wIs (wOp2 (gEq false) (wOp2 idxD (wVar 3) (wC (.int 0))) (wC (.str [109, 97, 110, 121])))) (wTup (wCons (wC (.str [109, 97, 110, 121])) (wCons (wFld 1 a (odOf_most ex)) wNil))) (wOp2 idxD (wVar 3) (wC (.int 0)))))))))))
def fsW (a : Addr) (ex : Ex) : WS := fun env D Y => okEx ex ∧ suiteW a ex env D Y
def bHeard (f : Addr) (th : PD → PX → Prop) : WS := wSeq (fun env D Y => env[0]? = some (.dt (.vr (.ref f))) ∧ wTryL th 6 1 fsW env D Y) (wRet (wC (.str [108, 101, 116])))
theorem okEx_nm {ex : Ex} (h : okEx ex) : ex.nm ∈ exNames := by
  rcases h with ⟨h, _⟩ | ⟨h, _⟩
  · unfold exNames; simp only [List.mem_cons, List.not_mem_nil, or_false] at h ⊢; rcases h with h | h <;> simp [h]
  · unfold exNames; rw [h]; decide
def prs (nm : String) : List (List Nat × Bool) := [([119, 111, 114, 100], decide (nm = "BadWord")), ([110, 117, 109, 98, 101, 114], decide (nm = "BadNumber")), ([109, 97, 110, 121], decide (nm = "TooMany"))]
theorem suite_ok {ex : Ex} {a : Addr} {Dn : DEn} {Y : PX} (h : okEx ex) (q : Dn.rt (.dt (caughtD ex))) : suiteW a ex [.non, .dt (.vr (.ref a)), .non, .non, .non, .non] Dn Y := by
  obtain ⟨nm, ks, ds⟩ := ex
  have oks : ∀ {s : List Nat}, s.all (fun c => decide (c < 1114112)) = true → okD (.str s) = true := fun {s} h => ok_str fun c hc => of_decide_eq_true (List.all_eq_true.mp h c hc)
  have s0 : ∀ k : Nat, k ≤ 100 → k < sizeLine := fun k hk => Nat.lt_of_le_of_lt hk (by decide)
  refine ⟨le_d rfl, _, rfl, rfl, le_d rfl, s0 _ (le_d rfl), _, rfl, rfl, le_d rfl, s0 _ (le_d rfl), _, rfl, rfl, le_d rfl, s0 _ (le_d rfl), _, rfl, _, rfl, _, rfl, le_d rfl, fun X' => ?_⟩
  refine lc_filter (xs := prs nm) (f := fun p => D.tup [.str p.1, .bl p.2]) (g := fun p => D.str p.1) (p := fun p => p.2) (fun p hp K k1 k0 => ?_) ?_
  · refine ⟨_, rfl, rfl, _, _, rfl, _, _, rfl, rfl, _, rfl, _, rfl, ?_⟩
    by_cases e : p.2 = true
    · exact itePos e ⟨rfl, _, rfl, itePos rfl ⟨_, rfl, k1 e⟩⟩
    · exact iteNeg e (iteNeg (by decide) (k0 (by simpa using e)))
  · revert q
    rcases h with ⟨h, h2, h3⟩ | ⟨h, h2, d, h3⟩
    · dsimp only at h h2 h3
      subst h2 h3
      simp only [List.mem_cons, List.not_mem_nil, or_false] at h
      rcases h with rfl | rfl
      · intro q
        have e : ((prs "BadNumber").filter fun p => p.2).map (fun p => D.str p.1) = [.str [110, 117, 109, 98, 101, 114]] := by simp [prs]
        rw [e]
        refine ⟨_, rfl, rfl, rfl, _, rfl, iteNeg (by rw [if_pos rfl, eqD_int]; decide) ?_⟩
        refine ⟨_, rfl, .str [110, 117, 109, 98, 101, 114], rfl, oks (by decide), oks (by decide), _, rfl, ?_⟩
        exact iteNeg (by rw [if_neg (by decide), eqD_str]; decide) ⟨_, rfl, .str [110, 117, 109, 98, 101, 114], rfl, q⟩
      · intro q
        have e : ((prs "BadWord").filter fun p => p.2).map (fun p => D.str p.1) = [.str [119, 111, 114, 100]] := by simp [prs]
        rw [e]
        refine ⟨_, rfl, rfl, rfl, _, rfl, iteNeg (by rw [if_pos rfl, eqD_int]; decide) ?_⟩
        refine ⟨_, rfl, .str [119, 111, 114, 100], rfl, oks (by decide), oks (by decide), _, rfl, ?_⟩
        exact iteNeg (by rw [if_neg (by decide), eqD_str]; decide) ⟨_, rfl, .str [119, 111, 114, 100], rfl, q⟩
    · dsimp only at h h2 h3
      subst h h2 h3
      intro q
      have e : ((prs "TooMany").filter fun p => p.2).map (fun p => D.str p.1) = [.str [109, 97, 110, 121]] := by simp [prs]
      rw [e]
      refine ⟨_, rfl, rfl, rfl, _, rfl, iteNeg (by rw [if_pos rfl, eqD_int]; decide) ?_⟩
      refine ⟨_, rfl, .str [109, 97, 110, 121], rfl, oks (by decide), oks (by decide), _, rfl, ?_⟩
      exact itePos (by rw [if_neg (by decide), eqD_str]; decide) ⟨rfl, d, rfl, le_d rfl, q⟩
theorem mo_isE {i : Nat} {a : Addr} {b : Bool} : Mono (wIsE i a b) := fun env Q Q' Y z ⟨h, w⟩ => ⟨h, z _ w⟩
theorem mo_fld {i : Nat} {a : Addr} {o : Option D} : Mono (wFld i a o) := fun env Q Q' Y z ⟨h, d, e, w⟩ => ⟨h, d, e, z _ w⟩
theorem ms_asgF {i : Nat} {f : WL} (hf : Mono f) : MonoS (wAsgF i f) := fun env D D' X z w => hf _ _ _ _ (fun d w => z.nx _ w) w
theorem ms_app {i : Nat} {f : WE} (hf : Mono f) : MonoS (wApp i f) := fun env D D' X z ⟨ds, e, w⟩ => ⟨ds, e, hf _ _ _ _ (fun d ⟨l, w⟩ => ⟨l, z.nx _ w⟩) w⟩
theorem ms_frz {i : Nat} {f : WS} (hf : MonoS f) : MonoS (wFrz i f) := fun env D D' X z ⟨ds, e, w⟩ => ⟨ds, e, hf _ _ _ _ z w⟩
theorem ms_ret {f : WE} (hf : Mono f) : MonoS (wRet f) := fun env D D' X z w => hf _ _ _ _ (fun _ w => z.rt _ w) w
theorem mo_ifE {c : WT} {f g : WE} (hc : Mono c) (hf : Mono f) (hg : Mono g) : Mono (wIfE c f g) := fun env Q Q' X z w => hc _ _ _ _ (fun c => ite_mono (hf _ _ _ _ z) (hg _ _ _ _ z)) w
theorem mo_lenV {f : WL} (hf : Mono f) : Mono (wCB lenD f) := fun env Q Q' X z w => hf _ _ _ _ (fun ds w => (lift_len (W := ⟨[], none, [], fun _ => (0 : Nat)⟩)).mono _ _ _ z w) w
theorem mo_itL {f : WE} (hf : Mono f) : Mono (wItL f) := fun env Q Q' X z w => hf _ _ _ _ (fun d ⟨ds, e, w⟩ => ⟨ds, e, z _ w⟩) w
theorem mo_lcV {it : WL} {w : WG} {tt : WT} {te : WE} {vs : List Nat} (hi : Mono it) (mw : ∀ env d (Q Q' : Env1 → Prop), (∀ e, Q e → Q' e) → w env d Q → w env d Q') (mt : Mono tt) (me : Mono te) : Mono (wLc it w tt te vs) :=
  fun env Q Q' X z h => hi _ _ _ _ (fun ds h => ⟨h.1, fun X' => lcRun_mono mw mt me ds _ _ z (h.2 X')⟩) h
theorem fs_mono (a : Addr) (ex : Ex) : MonoS (fsW a ex) := by
  intro env D D' Y z ⟨h, w⟩
  refine ⟨h, ?_⟩
  have W0 : Wd := ⟨[], none, [], fun _ => (0 : Nat)⟩
  have mE : ∀ a b (Q Q' : PD), (∀ d, Q d → Q' d) → gEq false a b Q → gEq false a b Q' := fun a b Q Q' z h => ⟨h.1, h.2.1, z _ h.2.2⟩
  have mN : ∀ a b (Q Q' : PD), (∀ d, Q d → Q' d) → gEq true a b Q → gEq true a b Q' := fun a b Q Q' z h => ⟨h.1, h.2.1, z _ h.2.2⟩
  have mI : ∀ a b (Q Q' : PD), (∀ d, Q d → Q' d) → idxD a b Q → idxD a b Q' := (lift_ix (W := W0)).mono
  have mG : ∀ env d (Q Q' : Env1 → Prop), (∀ e, Q e → Q' e) → (wGTup 2 (wGCons (wN 4) (wGCons (wN 5) wGNil))) env d Q → (wGTup 2 (wGCons (wN 4) (wGCons (wN 5) wGNil))) env d Q' := by
    intro env d Q Q' z ⟨ds, e, l, a, r, e1, b, r2, e2, e3, w⟩
    exact ⟨ds, e, l, a, r, e1, b, r2, e2, e3, z _ w⟩
  exact (ms_seq (ms_asgF (mo_lst mo_nil)) (ms_seq (ms_app (mo_tup (mo_cons mo_c (mo_cons mo_isE mo_nil)))) (ms_seq (ms_app (mo_tup (mo_cons mo_c (mo_cons mo_isE mo_nil)))) (ms_seq (ms_app (mo_tup (mo_cons mo_c (mo_cons mo_isE mo_nil)))) (ms_frz (ms_seq (ms_asg (mo_dat (mo_lcV (mo_itL mo_var) mG (mo_and (wIs_mono mo_var) (wIs_mono mo_isE)) mo_var))) (ms_seq (ms_if (wIs_mono (mo_op2 mN (mo_lenV (mo_cons mo_var mo_nil)) mo_c)) (ms_ret mo_c) ms_next) (ms_ret (mo_ifE (wIs_mono (mo_op2 mE (mo_op2 mI mo_var mo_c) mo_c)) (mo_tup (mo_cons mo_c (mo_cons mo_fld mo_nil))) (mo_op2 mI mo_var mo_c)))))))))) _ _ _ _ z w
theorem fs_wrap {W : Wd} {X : Cx} {G H : Hp} {E : XK} {sts : List Stmt} {a : Addr} {ex : Ex} (h : DSs W G H E X sts (suiteW a ex)) : DSs W G H E X sts (fsW a ex) := by
  obtain ⟨_, t, p, q⟩ := h
  exact ⟨fs_mono a ex, t, p, fun env σ G H Dv r ⟨_, w⟩ => q env σ G H Dv r w⟩
section
variable {W : Wd} {P : Program} {w : World} {mg : Str → Option Value} {base : Heap}
abbrev X0 (P : Program) (w : World) (W : Wd) (mg : Str → Option Value) (base : Heap) (g : Addr) (cdg : Value) (A : Around) (outer : List Env) (s : Shared) (H : Hp) : Cx :=
  (cxOf C8.CX0 P w W.K mg base N__law_heard "_law_heard" (defScope s__law_heard) g cdg A outer s H C8.E0).nox
theorem d_heard (T : CK W mg) {g : Addr} {cdg : Value} {A : Around} {outer : List Env} (hu : ∀ s H, (X0 P w W mg base g cdg A outer s H).A.units + 64 < cLine) {f c' : Addr} {s : Shared} {G H : Hp} {th : PD → PX → Prop} {tl : XK → Hp → VK → Prop} {q : Str}
    (act : ∀ (U : L2.WX) (pn : List (Addr × Obj)) (xe : Value → Shared → Prop) (E : XK) (p1 p2 : Pos), L2N.Takes ((X0 P w W mg base g cdg A outer s H).tr pn xe) U → (∀ cls d σ' H', E cls d H' → U cls d σ' H') →
        PE ((X0 P w W mg base g cdg A outer s H).tr pn xe) (.Call (.Name "call" p1) [] [] p2) (fun σZ HZ Q => σZ[0]? = some (some (.ref f)) ∧ HZ c' = some (CodeO c' q) ∧ tl E HZ Q))
    (hc : H c' = some (CodeO c' q)) (mono : ∀ Q Q' Y Y', (∀ d, Q d → Q' d) → (∀ ex, Y ex → Y' ex) → th Q Y → th Q' Y') (htl : ∀ G' H' E Q', Gst W G H G' H' → th (QE W G' H' Q') (XOk W G' H' E) → tl E H' Q') :
    DSs W G H E0 (X0 P w W mg base g cdg A outer s H) (defBody s__law_heard) (bHeard f th) := by
  obtain ⟨CW, hcw, ES⟩ := T.cw
  have nd : (X0 P w W mg base g cdg A outer s H).N.Nodup := sc__law_heard.nd
  have hmem : ∀ ex, okEx ex → W.cls ex.nm ∈ exNames.map W.cls := fun ex h => List.mem_map.mpr ⟨_, okEx_nm h, rfl⟩
  refine dss_cons (ds_tryC (i := 1) (ok := okEx) (CS := CW) rfl rfl rfl nd rfl rfl rfl ⟨rfl, by decide, .inl hcw⟩ takesN0 act (fun _ _ => rfl) mono htl (fun ex h => ES.m _ (hmem ex h)) (fun a ex env D Y h => h.1) fs_mono hc (fun a oe ex dx pn G1 H1 hz hf hh hok => ?_))
      (dss_one (ds_ret (de_str (s := [108, 101, 116]) rfl)))
  have B : DB0 W ((X0 P w W mg base g cdg A outer s H).suite a ((a, oe) :: pn)) := ⟨rfl, hu s H⟩
  have hn := okEx_nm hok
  have flx : ∀ m ∈ flNames, m ∈ exNames := by decide
  have ise : ∀ (m : String) (x : Str) (p1 p2 p3 pos : Pos), x = Str.ofString m → m ∈ flNames → mg x = some (.ref (W.cls m)) → Gl (X0 P w W mg base g cdg A outer s H) x → (x == ("__debug__" : Str)) = false →
      DE W G1 H1 E0 ((X0 P w W mg base g cdg A outer s H).suite a ((a, oe) :: pn)) (.Call (.Name "isinstance" p1) [.Name "error" p2, .Name x p3] [] pos) (wIsE 1 a (decide (ex.nm = m))) := fun m x p1 p2 p3 pos hx hm hmg hg hdb => by
    have hk := ES.k _ (hmem ex hok) _ (List.mem_map.mpr ⟨m, hm, rfl⟩)
    have e1 : decide (W.cls ex.nm = W.cls m) = decide (ex.nm = m) := by
      rw [Bool.eq_iff_iff, decide_eq_true_iff, decide_eq_true_iff]
      exact ⟨T.inj _ hn _ (flx m hm), fun h => by rw [h]⟩
    rw [e1] at hk
    exact de_isE (i := 1) (fun t h => pe_callB (call_isX (ES.a _ (hmem ex hok)) hz.zc hf) (by rfl) T.z_isi bt_isinstance h) (pa_cons (pv 1) (pa_cons (pe_glob (v := .ref (W.cls m)) hg hmg rfl hdb) pa_nil)) (fun u h => h) hk hh
  have hot : HotC ((X0 P w W mg base g cdg A outer s H).suite a ((a, oe) :: pn)) := ⟨(a, oe), ⟨rfl, hf.elim fun vs hv => ⟨vs, hv, hz.2.2 vs hv⟩⟩, List.mem_cons_self⟩
  have fld_most : ∀ (p1 p2 : Pos), DE W G1 H1 E0 ((X0 P w W mg base g cdg A outer s H).suite a ((a, oe) :: pn)) (.Attribute (.Name "error" p1) "most" p2) (wFld 1 a (odOf_most ex)) := fun p1 p2 => by
    by_cases hcTooMany : ex.nm = "TooMany"
    · obtain ⟨h2, d, h3⟩ : ex.ks = [Str.ofString "most"] ∧ ∃ d, ex.ds = [d] := by
        rcases hok with ⟨h, _⟩ | ⟨h, h2, d, h3⟩
        · rw [hcTooMany] at h
          exact absurd h (by decide)
        · exact ⟨h2, d, h3⟩
      have e : odOf_most ex = some d := by unfold odOf_most; simp [hcTooMany, h3]
      rw [e]
      have D1 := de_exF (W := W) (G0 := G1) (H0 := H1) (X := X0 P w W mg base g cdg A outer s H) (a := a) (oe := oe) (pn := pn) (i := 1) (f := Str.ofString "most") (C := W.cls "TooMany") (cls := .ref (W.cls ex.nm)) (dx := dx) (ex := ex) (d := d) (e := .Attribute (.Name "error" p1) "most" p2)
        (pe_xf (T.xf_TooMany) T.no_TooMany hz.zc hf (pv 1)) (by rw [hcTooMany]) hh h2 h3
      exact ⟨mo_fld, D1.ex.choose, D1.ex.choose_spec.1, fun env σ G H Q r ⟨h0, d', e, w⟩ => D1.ex.choose_spec.2 env σ G H Q r ⟨h0, by cases e; exact w⟩⟩
    have e : odOf_most ex = none := by unfold odOf_most; simp [hcTooMany]
    rw [e]
    exact de_dead
  have gn : ∀ m ∈ exNames, mg (Str.ofString m) = some (.ref (W.cls m)) := T.g
  refine fs_wrap ?_
  exact dss_cons (ds_asgF (i := 2) (fun _ h => ps_set (i := 2) nd rfl (.inl rfl) h) (df_lst da_nil))
    (dss_cons (ds_append (fun _ h => pe_bm PySem.F.plainAttrs_list PySem.F.slot_list_append PySem.F.type_list_append mt_append (pv 2) (pa_cons h pa_nil)) (de_tup (da_cons (de_str (s := [119, 111, 114, 100]) rfl) (da_cons (ise "BadWord" "BadWord" _ _ _ _ rfl (by decide) (gn _ (by decide)) (by rfl) (by decide)) da_nil))))
    (dss_cons (ds_append (fun _ h => pe_bm PySem.F.plainAttrs_list PySem.F.slot_list_append PySem.F.type_list_append mt_append (pv 2) (pa_cons h pa_nil)) (de_tup (da_cons (de_str (s := [110, 117, 109, 98, 101, 114]) rfl) (da_cons (ise "BadNumber" "BadNumber" _ _ _ _ rfl (by decide) (gn _ (by decide)) (by rfl) (by decide)) da_nil))))
    (dss_cons (ds_append (fun _ h => pe_bm PySem.F.plainAttrs_list PySem.F.slot_list_append PySem.F.type_list_append mt_append (pv 2) (pa_cons h pa_nil)) (de_tup (da_cons (de_str (s := [109, 97, 110, 121]) rfl) (da_cons (ise "TooMany" "TooMany" _ _ _ _ rfl (by decide) (gn _ (by decide)) (by rfl) (by decide)) da_nil))))
    (dss_frz 2 (dss_cons (ds_setLcH (own := [("word", 4), ("is_one", 5)]) (fl := wVar 2) (js := [4, 5]) (i := 3) hot rfl nd (blkOk_by (N := N__law_heard) (sc := defScope s__law_heard) (by decide +kernel)) rfl rfl (sw_true rfl rfl rfl (by decide +kernel)) (de_var (pv 2)) (by decide)
      (fun _ _ _ _ _ => dg_tupH (n := 2) rfl (dgs_cons (dg_name (pg_name (i := 4) (by exact nd) rfl (.inl rfl))) (dgs_cons (dg_name (pg_name (i := 5) (by exact nd) rfl (.inl rfl))) dgs_nil)) (fun h => pg_tupH hot h))
      (fun z H C cl fp => dts_one (dw_and ((de_var (pv 5)).val) (dw_one1 ((de_isE (i := 1) (fun t h => pe_callB (call_isX (ES.a _ (hmem ex hok)) hz.zc hf) (by rfl) T.z_isi bt_isinstance h) (pa_cons (pv 1) (pa_cons (pe_bltn (v := .ty "ValueError") (by rfl) T.z_ve bt_ValueError rfl) pa_nil)) (fun u h => h) (ES.v _ (hmem ex hok)) hh).val))).t) (fun _ _ _ _ _ => de_var (pv 4)))
    (dss_cons (ds_if (dt_cmp (op_neX B) lift_ne (de_cb (fun _ h => pe_callB cr_lenA (by rfl) T.z_ln bt_len h) lift_len (da_cons (de_var (pv 3)) da_nil)) de_int (nomark _)) (dss_one (ds_ret (de_str (s := [111, 100, 100]) rfl))) dss_nil)
      (dss_one (ds_ret (de_ifExp (dt_cmp (op_eqX B) lift_eq (de_ix B (de_var (pv 3)) de_int (fun _ _ => rfl)) (de_str (s := [109, 97, 110, 121]) rfl) (nomark _)) (de_tup (da_cons (de_str (s := [109, 97, 110, 121]) rfl) (da_cons (fld_most _ _) da_nil))) (de_ix B (de_var (pv 3)) de_int (fun _ _ => rfl)))))))))))
end
theorem caught_spec : ∀ f th Q Y, (∀ Q Q' Y Y', (∀ d, Q d → Q' d) → (∀ ex, Y ex → Y' ex) → th Q Y → th Q' Y') → S_caught th Q → bHeard f th (startE N__law_heard [.vr (.ref f)]) (dRet Q) Y := by
  intro f th Q Y hm h
  refine ⟨rfl, hm _ _ _ _ (fun d q => q) (fun ex q a Y' => ⟨q.1, ?_⟩) h⟩
  exact suite_ok (Dn := gone 1 _) q.1 q.2
end LK
/-! _law_heard(lambda: ..) -/
namespace LK
open PySem PySem.Spec PyProof.Rows L2 DL
def CaughtLk (W : Wd) (mg : Str → Option Value) : Prop := ∃ (g : Addr) (oc : Value) (od : Option Addr) (osl : Array (Option Value)) (kV doc pm cdv ct : Value) (an : Option Addr), mg "_law_heard" = some (.ref g) ∧ PySem.W.keepIn W.K (.ref g) = true ∧
  W.K.lookup g = some ⟨oc, od, .func (PySem.W.fnOf "_law_heard" "_law_heard" (defArgs s__law_heard) (defBody s__law_heard) (defScope s__law_heard) .none kV doc pm an cdv ct), osl⟩ ∧ PySem.W.codeIn W.K cdv "_law_heard" = true ∧
  Binds W.K (PySem.W.fnOf "_law_heard" "_law_heard" (defArgs s__law_heard) (defBody s__law_heard) (defScope s__law_heard) .none kV doc pm an cdv ct) ["call"] []
theorem de_caught {W : Wd} {P : Program} {w : World} {mg : Str → Option Value} {base : Heap} {N : List Str} {qu : Str} {sc : Scope} {fa : Addr} {cdv : Value} {A : Around} {outer : List Env} {s : Shared} {H : Hp} {E : XK} {G0 H0 : Hp} {k : Nat}
    (C : DC W E (k + 2) (cxOf (L2N.CX P w) P w W.K mg base N qu sc fa cdv A outer s H E)) (T : CK W mg) (LC : CaughtLk W mg) {c Pt : Addr} (TB : LamX.TabB base mg c Pt) (hg : Gl (cxOf (L2N.CX P w) P w W.K mg base N qu sc fa cdv A outer s H E) "_law_heard")
    (hcode : (cxOf (L2N.CX P w) P w W.K mg base N qu sc fa cdv A outer s H E).env.code = .ref c) (hmT : (Pt, (cxOf (L2N.CX P w) P w W.K mg base N qu sc fa cdv A outer s H E).env.qual ++ "<lambda>") ∈ W.T) (hu : ∀ p ∈ W.T, p.1 = Pt → p.2 = (cxOf (L2N.CX P w) P w W.K mg base N qu sc fa cdv A outer s H E).env.qual ++ "<lambda>")
    {params : Arguments} {body : Expr} {scope : Scope} {f : WE} {p lpos pos : Pos} (L : LamX.LamS (cxOf (L2N.CX P w) P w W.K mg base N qu sc fa cdv A outer s H E).env.scope scope)
    (hdef : defaultsOf params (cxOf (L2N.CX P w) P w W.K mg base N qu sc fa cdv A outer s H E).env = ([], []))
    (hbind : ∀ (q : Str) (cl : List (Str × Addr)) (pm cv ctv : Value), bindArgs (PySem.W.kla_fn "<lambda>" q params body scope cl pm cv ctv) ⟨[], []⟩ = pure []) (mf : Mono f) (mx : MonoX f)
    (hb : ∀ (G0 H0 : Hp) (A' : Around) (outer' : List Env) (s' : Shared) (H' : Hp) (E' : XK) (f' c' : Addr), DC W E' k (lamN (cxOf (L2N.CX P w) P w W.K mg base N qu sc fa cdv A outer s H E) A' outer' s' H' E' scope f' c') →
      DE W G0 H0 E' (lamN (cxOf (L2N.CX P w) P w W.K mg base N qu sc fa cdv A outer s H E) A' outer' s' H' E' scope f' c') body f) :
    DE W G0 H0 E (cxOf (L2N.CX P w) P w W.K mg base N qu sc fa cdv A outer s H E) (.Call (.Name "_law_heard" p) [.Lambda params body scope lpos] [] pos) (wLam S_caught f) := by
  obtain ⟨g, oc, od, osl, kV, doc, pm, cdg, ct, an, hm, hk, lk, hcg, hbd⟩ := LC
  refine de_lam C mf mx (fun th hm Q Q' z h => hm _ _ _ _ (fun d h => z _ h) (fun ex h => ⟨h.1, z _ h.2⟩) h) (fun t ht => lamcallN hg hm hk lk hcg hbd sc__law_heard rfl (.inl rfl) ?_ TB hcode hmT hu C.room L hdef hbind ht) hb
  exact caught_gives (W := W) (S := S_caught) (body := bHeard) (by decide) rfl caught_spec fun f c' s' G H' th tl gk act hc mono htl => d_heard T (fun s'' H'' => (C.room.deeper _).units) act hc mono htl
end LK
/-! what is refused -/
namespace LK
open PySem PySem.Spec PyProof.Rows L2 DL
abbrev pW : D := .str [119, 111, 114, 100]
abbrev pN : D := .str [110, 117, 109, 98, 101, 114]
abbrev pM : D := .tup [.str [109, 97, 110, 121], .int 300]
theorem cm_word : caughtD (bad "BadWord") = pW := by simp [caughtD, bad]
theorem cm_num : caughtD (bad "BadNumber") = pN := by simp [caughtD, bad]
theorem cm_many : caughtD tooM = pM := by simp [caughtD, tooM]
theorem okX_word : okEx (bad "BadWord") := .inl ⟨by decide, rfl, rfl⟩
theorem okX_num : okEx (bad "BadNumber") := .inl ⟨by decide, rfl, rfl⟩
theorem okX_many : okEx tooM := .inr ⟨rfl, rfl, _, rfl⟩
def S__law_are_refused (W : Wd) : SpecD
  | [h], Q, _ => h = hdD W ∧ Q (.bl true)
  | _, _, _ => False
theorem m__law_are_refused {W : Wd} : MonoD (S__law_are_refused W) := by
  intro ds Q Q' X X' z y h
  unfold S__law_are_refused at h ⊢
  split at h <;> first | exact h.elim | exact ⟨h.1, (z _) h.2⟩
abbrev N__law_are_refused : List Str := ["hand", "bad", "counts", "heard", "call"]
def bt__law_are_refused_10 (W : Wd) : WS := wRet (wBor 3 (wOp2 (gEq false) (wVar 3) (wOp2 addD (wOp2 mulD (wDat (wLst (wCons (wC (.str [119, 111, 114, 100])) wNil))) (wC (.int 7))) (wDat (wLst (wCons (wC (.str [110, 117, 109, 98, 101, 114])) (wCons (wTup (wCons (wC (.str [109, 97, 110, 121])) (wCons (wC (.int 300)) wNil))) wNil)))))))
def bt__law_are_refused_9 (W : Wd) : WS := wSeq (wApp 3 (wLam S_caught (wCall S_least_sum_period (wCons (wOp2 mulD (wC (.str [97, 98])) (wC (.int 151))) wNil)))) (bt__law_are_refused_10 W)
def bt__law_are_refused_8 (W : Wd) : WS := wSeq (wApp 3 (wLam S_caught (wCall S_counts_met (wCons (wC (.str [97, 98])) (wCons (wCall (S__law_any W) (wCons (wVar 0) (wCons (wVar 2) wNil))) wNil))))) (bt__law_are_refused_9 W)
def bt__law_are_refused_7 (W : Wd) : WS := wSeq (wApp 3 (wLam S_caught (wCall S_counts_met (wCons (wVar 1) (wCons (wTup (wCons (wC (.int 1)) wNil)) wNil))))) (bt__law_are_refused_8 W)
def bt__law_are_refused_6 (W : Wd) : WS := wSeq (wApp 3 (wLam S_caught (wCall S_same_letters (wCons (wVar 1) (wCons (wC (.str [97])) wNil))))) (bt__law_are_refused_7 W)
def bt__law_are_refused_5 (W : Wd) : WS := wSeq (wApp 3 (wLam S_caught (wCall S_same_letters (wCons (wC (.str [97])) (wCons (wVar 1) wNil))))) (bt__law_are_refused_6 W)
def bt__law_are_refused_4 (W : Wd) : WS := wSeq (wApp 3 (wLam S_caught (wCall S_is_double (wCons (wVar 1) (wCons (wC .non) wNil))))) (bt__law_are_refused_5 W)
def bt__law_are_refused_3 (W : Wd) : WS := wSeq (wFor (wItems (wTup (wCons (wC (.vr (.ref (W.cls "first_double")))) (wCons (wC (.vr (.ref (W.cls "sum_sizes")))) (wCons (wC (.vr (.ref (W.cls "least_sum_period")))) wNil))))) (wN 4) (wApp 3 (wLam S_caught (wCallV W 4 [("first_double", S_first_double), ("sum_sizes", S_sum_sizes), ("least_sum_period", S_least_sum_period)] (wCons (wVar 1) wNil))))) (bt__law_are_refused_4 W)
def bt__law_are_refused_2 (W : Wd) : WS := wSeq (wAsgF 3 (wLst wNil)) (bt__law_are_refused_3 W)
def bt__law_are_refused_1 (W : Wd) : WS := wSeq (wAsg (wN 2) (wDat (wLst (wCons (wTup wNil) (wCons (wTup (wCons (wC (.int 2001)) wNil)) (wCons (wTup (wCons (wOp1 (gU fun i => .int (-i)) (wC (.int 1))) wNil)) (wCons (wTup (wCons (wC (.bl true)) wNil)) (wCons (wTup (wCons (wC .non) wNil)) (wCons (wDat (wLst (wCons (wC (.int 1)) wNil))) (wCons (wC .non) (wCons (wOp2 repTD (wTup (wCons (wC (.int 1)) wNil)) (wC (.int 27))) (wCons (wC (.str [49])) (wCons (wC (.dct [] [])) (wCons (wTup (wCons (wTup (wCons (wC (.int 1)) wNil)) wNil)) (wCons (wC (.int 1)) wNil))))))))))))))) (bt__law_are_refused_2 W)
def b__law_are_refused (W : Wd) : WS := wSeq (wAsg (wN 1) (wCall (S__law_any W) (wCons (wVar 0) (wCons (wDat (wLst (wCons (wC .non) (wCons (wC (.int 0)) (wCons (wC (.str [65])) (wCons (wC (.str [97, 32, 98])) (wCons (wDat (wLst (wCons (wC (.str [97])) wNil))) (wCons (wTup (wCons (wC (.str [97])) wNil)) (wCons (wC (.bl true)) (wCons (wC (.str [97, 49])) (wCons (wC (.dct [] [])) (wCons (wCall (S__law_deep W) (wCons (wVar 0) wNil)) wNil)))))))))))) wNil)))) (bt__law_are_refused_1 W)
section
variable {W : Wd} {Q : PD} {Y : PX} {n : D} {x4 : Sl} {cl : List D}
theorem wA : wordD (.str [97]) = true := by decide +kernel
theorem wAB : wordD (.str [97, 98]) = true := by decide +kernel
theorem w302 : wordD (.str (List.replicate (151 : Int).toNat [97, 98]).flatten) = true := by decide +kernel
theorem l302 : 300 < (List.replicate (151 : Int).toNat [97, 98]).flatten.length := by decide +kernel
def fns : List (String × SpecD) := [("first_double", S_first_double), ("sum_sizes", S_sum_sizes), ("least_sum_period", S_least_sum_period)]
theorem fns_bad (hn : okv n ∧ wordD n = false) {p : String × SpecD} (hp : p ∈ fns) {Q : PD} {Y : PX} (q : Y (bad "BadWord")) : p.2 [n] Q Y := by
  simp only [fns, List.mem_cons, List.not_mem_nil, or_false] at hp
  rcases hp with rfl | rfl | rfl
  · exact ⟨hn.1, iteNeg (by rw [hn.2]; decide) q⟩
  · exact ⟨hn.1, iteNeg (by rw [hn.2]; decide) q⟩
  · exact ⟨hn.1, iteNeg (by rw [hn.2]; decide) q⟩
theorem g4 (hn : okv n ∧ wordD n = false) (h1 : 1 ≤ cl.length) (h2 : cl.length ≤ 100) (hc : ∀ d ∈ cl, vrs d ∧ ctsOk d = false) (q : Q (.bl true)) :
    bt__law_are_refused_4 W [.dt (hdD W), .dt n, .dt (.lst cl), .ow [pW, pW, pW], x4] (dRet Q) Y := by
  have hsz : sizeLine = 16777216 := rfl
  refine ⟨_, rfl, _, rfl, hn.1, rfl, iteNeg (by rw [hn.2]; decide) ⟨okX_word, le_d rfl, ?_⟩⟩
  rw [cm_word]
  refine ⟨_, rfl, _, rfl, word_okv wA, hn.1, itePos wA (iteNeg (by rw [hn.2]; decide) ⟨okX_word, le_d rfl, ?_⟩)⟩
  rw [cm_word]
  refine ⟨_, rfl, _, rfl, hn.1, word_okv wA, iteNeg (by rw [hn.2]; decide) ⟨okX_word, le_d rfl, ?_⟩⟩
  rw [cm_word]
  refine ⟨_, rfl, _, rfl, le_d rfl, hn.1, vt (by decide) rfl, iteNeg (by rw [hn.2]; decide) ⟨okX_word, le_d rfl, ?_⟩⟩
  rw [cm_word]
  refine ⟨_, rfl, _, rfl, _, rfl, rfl, h1, by show cl.length ≤ _; omega, fun d hd => ?_⟩
  obtain ⟨v, c⟩ := hc d hd
  refine ⟨word_okv wAB, v, itePos wAB (iteNeg (by rw [c]; decide) ⟨okX_num, le_d rfl, ?_⟩)⟩
  rw [cm_num]
  refine ⟨_, rfl, by decide, by decide, by decide, word_okv w302, itePos w302 (itePos l302 ⟨okX_many, le_d rfl, ?_⟩)⟩
  rw [cm_many]
  have hl : layD (.lst [pW, pW, pW, pW, pW, pW, pW, pN, pM]) = true := by rfl
  have hok : okD (.lst [pW, pW, pW, pW, pW, pW, pW, pN, pM]) = true := okD_of hl (by decide)
  refine ⟨_, rfl, _, rfl, le_d rfl, by decide, by decide, by show 1 * 7 ≤ sizeLine; decide, le_d rfl, le_d rfl, le_d rfl, hok, hok, rfl, ?_⟩
  show Q (.bl (eqD (.lst [pW, pW, pW, pW, pW, pW, pW, pN, pM]) (.lst [pW, pW, pW, pW, pW, pW, pW, pN, pM])))
  rw [eqD_refl _ hl]
  exact q
theorem g2 (hn : okv n ∧ wordD n = false) (h1 : 1 ≤ cl.length) (h2 : cl.length ≤ 100) (hc : ∀ d ∈ cl, vrs d ∧ ctsOk d = false) (q : Q (.bl true)) :
    bt__law_are_refused_2 W [.dt (hdD W), .dt n, .dt (.lst cl), .non, x4] (dRet Q) Y := by
  have hsz : sizeLine = 16777216 := rfl
  refine ⟨by show 0 ≤ sizeLine; decide, ?_⟩
  refine ⟨le_d rfl, ?_⟩
  show forRun _ _ (fns.map fun p : String × SpecD => D.vr (.ref (W.cls p.1))) _ _ _
  refine for_run (f := fun p : String × SpecD => D.vr (.ref (W.cls p.1))) (st := fun (a : List D) (x : Sl) => [.dt (hdD W), .dt n, .dt (.lst cl), .ow a, x]) (sb := fun a x p => [.dt (hdD W), .dt n, .dt (.lst cl), .ow a, .dt (.vr (.ref (W.cls p.1)))])
    (P := fun p r a => p ++ r = fns ∧ a = List.replicate p.length pW) _ (fun a x c Q q => q) (fun p c r a x D' hP e3 e4 k => ?_) (fun p a x hP => ?_) [] x4 ⟨rfl, rfl⟩
  · obtain ⟨hp, rfl⟩ := hP
    have hcm : c ∈ fns := by rw [← hp]; simp
    have hpl : p.length ≤ 3 := by
      have := congrArg List.length hp
      rw [List.length_append] at this
      have l3 : fns.length = 3 := rfl
      omega
    refine ⟨_, rfl, c.1, c.2, hcm, rfl, _, rfl, fns_bad hn hcm ⟨okX_word, by rw [List.length_replicate]; omega, ?_⟩⟩
    rw [cm_word]
    refine (k _ (.dt (.vr (.ref (W.cls c.1)))) ⟨by rw [← hp]; simp, ?_⟩).1
    rw [List.length_append, List.length_singleton, List.replicate_succ']
  · obtain ⟨hp, rfl⟩ := hP
    rw [List.append_nil] at hp
    subst hp
    exact g4 hn h1 h2 hc q
end
theorem h__law_are_refused {W : Wd} : ∀ ds Q Y, ds.length = 1 → S__law_are_refused W ds Q Y → b__law_are_refused W (startE N__law_are_refused ds) (dRet Q) Y := by
  intro ds Q Y hl h
  unfold S__law_are_refused at h
  split at h <;> try exact h.elim
  rename_i h0
  obtain ⟨rfl, h⟩ := h
  have hsz : sizeLine = 16777216 := rfl
  refine ⟨_, rfl, le_d rfl, le_d rfl, _, rfl, rfl, fun d hd => ⟨le_d rfl, rfl, le_d rfl, le_d rfl, fun n hn => ?_⟩⟩
  obtain ⟨d1, d2, d3, d4⟩ := deep_okv hd
  have Hn : okv n ∧ wordD n = false := by
    simp only [itsOf, List.mem_cons, List.not_mem_nil, or_false] at hn
    rcases hn with rfl | rfl | rfl | rfl | rfl | rfl | rfl | rfl | rfl | rfl
    · exact ⟨okv_n rfl (by intro s e; cases e), rfl⟩
    · exact ⟨okv_n rfl (by intro s e; cases e), rfl⟩
    · exact ⟨okv_s rfl (by decide), by decide +kernel⟩
    · exact ⟨okv_s rfl (by decide), by decide +kernel⟩
    · exact ⟨okv_n rfl (by intro s e; cases e), rfl⟩
    · exact ⟨okv_n rfl (by intro s e; cases e), rfl⟩
    · exact ⟨okv_n rfl (by intro s e; cases e), rfl⟩
    · exact ⟨okv_s rfl (by decide), by decide +kernel⟩
    · exact ⟨okv_n rfl (by intro s e; cases e), rfl⟩
    · exact ⟨d1, d3⟩
  refine ⟨le_d rfl, le_d rfl, _, rfl, le_d rfl, le_d rfl, le_d rfl, le_d rfl, le_d rfl, _, _, rfl, rfl, (fun z => nomatch z), by decide, by decide, by show 1 ≤ 1000; decide, le_d rfl, le_d rfl, le_d rfl, ?_⟩
  refine g2 Hn ?_ ?_ (fun d hd => ?_) h
  · show 1 ≤ 12; decide
  · show 12 ≤ 100; decide
  simp only [List.mem_cons, List.not_mem_nil, or_false] at hd
  rcases hd with rfl | rfl | rfl | rfl | rfl | rfl | rfl | rfl | rfl | rfl | rfl | rfl
  · exact ⟨vt (by decide) rfl, by rfl⟩
  · exact ⟨vt (by decide) rfl, by decide +kernel⟩
  · exact ⟨vt (by decide) rfl, by decide +kernel⟩
  · exact ⟨vt (by decide) rfl, by decide +kernel⟩
  · exact ⟨vt (by decide) rfl, by decide +kernel⟩
  · exact ⟨rfl, rfl⟩
  · exact ⟨rfl, rfl⟩
  · exact ⟨vt (by decide +kernel) (by decide +kernel), by decide +kernel⟩
  · exact ⟨rfl, rfl⟩
  · exact ⟨rfl, rfl⟩
  · exact ⟨vt (by decide) rfl, by decide +kernel⟩
  · exact ⟨rfl, rfl⟩
end LK
/-! the defs against the text -/
namespace LK
open PySem PySem.Spec PyProof.Rows L2 DL
abbrev s__law_draw : Stmt := topS 27
abbrev N__law_draw : List Str := ["hand", "many", "cell", "digit", "number"]
theorem sc__law_draw : FnScope N__law_draw ["hand", "many"] (defScope s__law_draw) := ⟨rfl, rfl, rfl, by decide +kernel, rfl, by decide +kernel, by decide +kernel⟩
abbrev s__law_hand : Stmt := topS 26
abbrev N__law_hand : List Str := ["script", "cells", "cell"]
theorem sc__law_hand : FnScope N__law_hand ["script"] (defScope s__law_hand) := ⟨rfl, rfl, rfl, by decide +kernel, rfl, by decide +kernel, by decide +kernel⟩
abbrev N_law : List Str := ["script", "hand", "said", "turn", "words", "word"]
def bt_law_5 (W : Wd) : WS := wRet (wC (.bl true))
def bt_law_4 (W : Wd) : WS := wSeq (wFor (wRange1 (wC (.int 5))) (wN 3) (wSeq (wAsg (wN 4) (wDat (wLst (wCons (wCall (S__law_made W) (wCons (wVar 1) wNil)) (wCons (wCall (S__law_made W) (wCons (wVar 1) wNil)) (wCons (wCall (S__law_word W) (wCons (wVar 1) (wCons (wC (.str [97, 98, 99])) (wCons (wC (.int 20)) wNil)))) (wCons (wCall (S__law_word W) (wCons (wVar 1) (wCons (wC (.str [97, 98])) (wCons (wC (.int 12)) wNil)))) wNil))))))) (wSeq (wAsg (wN 5) (wCall (S__law_any W) (wCons (wVar 1) (wCons (wVar 4) wNil)))) (wIf (wOrT (wNotT (wIs (wCall (S__law_is_right W) (wCons (wVar 1) (wCons (wVar 5) wNil))))) (wNotT (wIs (wCall (S__law_are_refused W) (wCons (wVar 1) wNil))))) (wRet (wC (.bl false))) wNext)))) (bt_law_5 W)
def bt_law_3 (W : Wd) : WS := wSeq (wIf (wNotT (wIs (wCall S__law_is (wCons (wVar 2) (wCons (wDat (wLst (wCons (wC .non) (wCons (wTup (wCons (wC (.int 1)) (wCons (wC (.int 1)) wNil))) (wCons (wC (.int 2)) (wCons (wC (.int 0)) (wCons (wC (.int 1)) (wCons (wTup (wCons (wC (.int 0)) (wCons (wC (.int 3)) wNil))) wNil)))))))) wNil))))) (wRet (wC (.bl false))) wNext) (bt_law_4 W)
def bt_law_2 (W : Wd) : WS := wSeq (wAsg (wN 2) (wOp2 addD (wVar 2) (wDat (wLst (wCons (wCall S_counts_met (wCons (wC (.str [97, 97, 98, 98])) (wCons (wTup (wCons (wC (.int 1)) (wCons (wC (.int 1)) wNil))) wNil))) (wCons (wCall S_first_double (wCons (wC (.str [97, 98, 99, 98, 97, 99])) wNil)) wNil)))))) (bt_law_3 W)
def bt_law_1 (W : Wd) : WS := wSeq (wAsg (wN 2) (wDat (wLst (wCons (wCall S_first_double (wCons (wC (.str [97, 98, 99, 97, 98])) wNil)) (wCons (wCall S_first_double (wCons (wC (.str [97, 98, 98, 97])) wNil)) (wCons (wCall S_least_sum_period (wCons (wC (.str [97, 98, 98, 97, 97, 98])) wNil)) (wCons (wCall S_least_sum_period (wCons (wC (.str [])) wNil)) wNil))))))) (bt_law_2 W)
abbrev s_is_integer : Stmt := topS 3
abbrev s_is_within : Stmt := topS 4
abbrev s_is_tuple_of : Stmt := topS 5
abbrev s_is_text : Stmt := topS 6
abbrev s_is_word : Stmt := topS 13
abbrev s_check_word : Stmt := topS 14
abbrev s_check_words : Stmt := topS 15
abbrev s_same_letters : Stmt := topS 18
abbrev s_first_double : Stmt := topS 19
abbrev s_is_double : Stmt := topS 20
abbrev s_sum_sizes : Stmt := topS 21
abbrev s_is_sum_period : Stmt := topS 23
abbrev s_least_sum_period : Stmt := topS 22
abbrev s_counts_met : Stmt := topS 24
abbrev s__law_any : Stmt := topS 28
abbrev s__law_shuffled : Stmt := topS 29
abbrev s__law_is : Stmt := topS 30
abbrev s__law_is_int : Stmt := topS 31
abbrev s__law_some : Stmt := topS 32
abbrev s__law_word : Stmt := topS 33
abbrev s__law_deep : Stmt := topS 34
abbrev s__law_counts : Stmt := topS 36
abbrev s__law_are_same : Stmt := topS 37
abbrev s__law_double : Stmt := topS 38
abbrev s__law_is_double : Stmt := topS 39
abbrev s__law_sizes : Stmt := topS 40
abbrev s__law_period : Stmt := topS 41
abbrev s__law_met : Stmt := topS 42
abbrev s__law_made : Stmt := topS 43
abbrev s__law_near : Stmt := topS 44
abbrev s__law_is_right : Stmt := topS 45
abbrev s__law_are_refused : Stmt := topS 46
abbrev s_law : Stmt := topS 47
theorem sc_is_integer : FnScope N_is_integer ["thing"] (defScope s_is_integer) := ⟨rfl, rfl, rfl, by decide +kernel, rfl, by decide +kernel, by decide +kernel⟩
theorem sc_is_within : FnScope N_is_within ["thing", "low", "high"] (defScope s_is_within) := ⟨rfl, rfl, rfl, by decide +kernel, rfl, by decide +kernel, by decide +kernel⟩
theorem sc_is_tuple_of : FnScope N_is_tuple_of ["thing", "many"] (defScope s_is_tuple_of) := ⟨rfl, rfl, rfl, by decide +kernel, rfl, by decide +kernel, by decide +kernel⟩
theorem sc_is_text : FnScope N_is_text ["thing", "most"] (defScope s_is_text) := ⟨rfl, rfl, rfl, by decide +kernel, rfl, by decide +kernel, by decide +kernel⟩
theorem sc_is_word : FnScope N_is_word ["thing"] (defScope s_is_word) := ⟨rfl, rfl, rfl, by decide +kernel, rfl, by decide +kernel, by decide +kernel⟩
theorem sc_check_word : FnScope N_check_word ["word"] (defScope s_check_word) := ⟨rfl, rfl, rfl, by decide +kernel, rfl, by decide +kernel, by decide +kernel⟩
theorem sc_check_words : FnScope N_check_words ["one", "other"] (defScope s_check_words) := ⟨rfl, rfl, rfl, by decide +kernel, rfl, by decide +kernel, by decide +kernel⟩
theorem sc_same_letters : FnScope N_same_letters ["one", "other"] (defScope s_same_letters) := ⟨rfl, rfl, rfl, by decide +kernel, rfl, by decide +kernel, by decide +kernel⟩
theorem sc_first_double : FnScope N_first_double ["word"] (defScope s_first_double) := ⟨rfl, rfl, rfl, by decide +kernel, rfl, by decide +kernel, by decide +kernel⟩
theorem sc_is_double : FnScope N_is_double ["word", "thing"] (defScope s_is_double) := ⟨rfl, rfl, rfl, by decide +kernel, rfl, by decide +kernel, by decide +kernel⟩
theorem sc_sum_sizes : FnScope N_sum_sizes ["word"] (defScope s_sum_sizes) := ⟨rfl, rfl, rfl, by decide +kernel, rfl, by decide +kernel, by decide +kernel⟩
theorem sc_is_sum_period : FnScope N_is_sum_period ["word", "step"] (defScope s_is_sum_period) := ⟨rfl, rfl, rfl, by decide +kernel, rfl, by decide +kernel, by decide +kernel⟩
theorem sc_least_sum_period : FnScope N_least_sum_period ["word"] (defScope s_least_sum_period) := ⟨rfl, rfl, rfl, by decide +kernel, rfl, by decide +kernel, by decide +kernel⟩
theorem sc_counts_met : FnScope N_counts_met ["word", "counts"] (defScope s_counts_met) := ⟨rfl, rfl, rfl, by decide +kernel, rfl, by decide +kernel, by decide +kernel⟩
theorem sc__law_any : FnScope N__law_any ["hand", "some"] (defScope s__law_any) := ⟨rfl, rfl, rfl, by decide +kernel, rfl, by decide +kernel, by decide +kernel⟩
theorem sc__law_shuffled : FnScope N__law_shuffled ["hand", "some"] (defScope s__law_shuffled) := ⟨rfl, rfl, rfl, by decide +kernel, rfl, by decide +kernel, by decide +kernel⟩
theorem sc__law_is : FnScope N__law_is ["said", "due"] (defScope s__law_is) := ⟨rfl, rfl, rfl, by decide +kernel, rfl, by decide +kernel, by decide +kernel⟩
theorem sc__law_is_int : FnScope N__law_is_int ["thing"] (defScope s__law_is_int) := ⟨rfl, rfl, rfl, by decide +kernel, rfl, by decide +kernel, by decide +kernel⟩
theorem sc__law_some : FnScope N__law_some ["hand", "letters", "length"] (defScope s__law_some) := ⟨rfl, rfl, rfl, by decide +kernel, rfl, by decide +kernel, by decide +kernel⟩
theorem sc__law_word : FnScope N__law_word ["hand", "letters", "most"] (defScope s__law_word) := ⟨rfl, rfl, rfl, by decide +kernel, rfl, by decide +kernel, by decide +kernel⟩
theorem sc__law_deep : FnScope N__law_deep ["hand"] (defScope s__law_deep) := ⟨rfl, rfl, rfl, by decide +kernel, rfl, by decide +kernel, by decide +kernel⟩
theorem sc__law_counts : FnScope N__law_counts ["word", "many"] (defScope s__law_counts) := ⟨rfl, rfl, rfl, by decide +kernel, rfl, by decide +kernel, by decide +kernel⟩
theorem sc__law_are_same : FnScope N__law_are_same ["one", "other"] (defScope s__law_are_same) := ⟨rfl, rfl, rfl, by decide +kernel, rfl, by decide +kernel, by decide +kernel⟩
theorem sc__law_double : FnScope N__law_double ["word"] (defScope s__law_double) := ⟨rfl, rfl, rfl, by decide +kernel, rfl, by decide +kernel, by decide +kernel⟩
theorem sc__law_is_double : FnScope N__law_is_double ["word", "thing"] (defScope s__law_is_double) := ⟨rfl, rfl, rfl, by decide +kernel, rfl, by decide +kernel, by decide +kernel⟩
theorem sc__law_sizes : FnScope N__law_sizes ["word"] (defScope s__law_sizes) := ⟨rfl, rfl, rfl, by decide +kernel, rfl, by decide +kernel, by decide +kernel⟩
theorem sc__law_period : FnScope N__law_period ["word"] (defScope s__law_period) := ⟨rfl, rfl, rfl, by decide +kernel, rfl, by decide +kernel, by decide +kernel⟩
theorem sc__law_met : FnScope N__law_met ["word", "counts"] (defScope s__law_met) := ⟨rfl, rfl, rfl, by decide +kernel, rfl, by decide +kernel, by decide +kernel⟩
theorem sc__law_made : FnScope N__law_made ["hand"] (defScope s__law_made) := ⟨rfl, rfl, rfl, by decide +kernel, rfl, by decide +kernel, by decide +kernel⟩
theorem sc__law_near : FnScope N__law_near ["hand", "word"] (defScope s__law_near) := ⟨rfl, rfl, rfl, by decide +kernel, rfl, by decide +kernel, by decide +kernel⟩
theorem sc__law_is_right : FnScope N__law_is_right ["hand", "word"] (defScope s__law_is_right) := ⟨rfl, rfl, rfl, by decide +kernel, rfl, by decide +kernel, by decide +kernel⟩
theorem sc__law_are_refused : FnScope N__law_are_refused ["hand"] (defScope s__law_are_refused) := ⟨rfl, rfl, rfl, by decide +kernel, rfl, by decide +kernel, by decide +kernel⟩
theorem sc_law : FnScope N_law ["script"] (defScope s_law) := ⟨rfl, rfl, rfl, by decide +kernel, rfl, by decide +kernel, by decide +kernel⟩
structure Fc (W : Wd) (mg : Str → Option Value) : Prop where
  ck : CK W mg
  lc : CaughtLk W mg
  hd : ∃ hh, W.hand = some hh
  f__law_draw : ∃ f fd, Fun W.K "_law_draw" "_law_draw" s__law_draw f fd ∧ mg "_law_draw" = some (.ref f) ∧ Binds W.K fd ["hand", "many"] []
  z_all : mg "all" = none
  z_any : mg "any" = none
  z_dict : mg "dict" = none
  z_isinstance : mg "isinstance" = none
  z_len : mg "len" = none
  z_list : mg "list" = none
  z_range : mg "range" = none
  z_set : mg "set" = none
  z_sorted : mg "sorted" = none
  z_sum : mg "sum" = none
  z_tuple : mg "tuple" = none
  z_zip : mg "zip" = none
  g_LETTERS : ∃ u, mg "LETTERS" = some u ∧ RelV (.str (zs [97, 98, 99, 100, 101, 102, 103, 104, 105, 106, 107, 108, 109, 110, 111, 112, 113, 114, 115, 116, 117, 118, 119, 120, 121, 122])) u
  g_MOST_LONG : ∃ u, mg "MOST_LONG" = some u ∧ RelV (.int 300) u
  g_MOST_WORD : ∃ u, mg "MOST_WORD" = some u ∧ RelV (.int 2000) u
  fv_first_double : mg "first_double" = some (.ref (W.cls "first_double"))
  fv_least_sum_period : mg "least_sum_period" = some (.ref (W.cls "least_sum_period"))
  fv_sum_sizes : mg "sum_sizes" = some (.ref (W.cls "sum_sizes"))
  z_bool : mg "bool" = none
  z_int : mg "int" = none
  z_str : mg "str" = none
  e_BadNumber : ExC W mg "BadNumber" "BadNumber"
  e_BadWord : ExC W mg "BadWord" "BadWord"
  x_TooMany : ∀ (P : Program) (w : World) (base : Heap), ExI W P w mg base "TooMany" "TooMany" "most"
  z_abs : mg "abs" = none
  f_is_integer : ∃ f fd, Fun W.K "is_integer" "is_integer" s_is_integer f fd ∧ mg "is_integer" = some (.ref f) ∧ Binds W.K fd ["thing"] []
  f_is_within : ∃ f fd, Fun W.K "is_within" "is_within" s_is_within f fd ∧ mg "is_within" = some (.ref f) ∧ Binds W.K fd ["thing", "low", "high"] []
  f_is_tuple_of : ∃ f fd, Fun W.K "is_tuple_of" "is_tuple_of" s_is_tuple_of f fd ∧ mg "is_tuple_of" = some (.ref f) ∧ Binds W.K fd ["thing", "many"] []
  f_is_text : ∃ f fd, Fun W.K "is_text" "is_text" s_is_text f fd ∧ mg "is_text" = some (.ref f) ∧ Binds W.K fd ["thing", "most"] []
  f_is_word : ∃ f fd, Fun W.K "is_word" "is_word" s_is_word f fd ∧ mg "is_word" = some (.ref f) ∧ Binds W.K fd ["thing"] []
  f_check_word : ∃ f fd, Fun W.K "check_word" "check_word" s_check_word f fd ∧ mg "check_word" = some (.ref f) ∧ Binds W.K fd ["word"] []
  f_check_words : ∃ f fd, Fun W.K "check_words" "check_words" s_check_words f fd ∧ mg "check_words" = some (.ref f) ∧ Binds W.K fd ["one", "other"] []
  f_same_letters : ∃ f fd, Fun W.K "same_letters" "same_letters" s_same_letters f fd ∧ mg "same_letters" = some (.ref f) ∧ Binds W.K fd ["one", "other"] []
  f_first_double : ∃ f fd, Fun W.K "first_double" "first_double" s_first_double f fd ∧ mg "first_double" = some (.ref f) ∧ Binds W.K fd ["word"] []
  f_is_double : ∃ f fd, Fun W.K "is_double" "is_double" s_is_double f fd ∧ mg "is_double" = some (.ref f) ∧ Binds W.K fd ["word", "thing"] []
  f_sum_sizes : ∃ f fd, Fun W.K "sum_sizes" "sum_sizes" s_sum_sizes f fd ∧ mg "sum_sizes" = some (.ref f) ∧ Binds W.K fd ["word"] []
  f_is_sum_period : ∃ f fd, Fun W.K "is_sum_period" "is_sum_period" s_is_sum_period f fd ∧ mg "is_sum_period" = some (.ref f) ∧ Binds W.K fd ["word", "step"] []
  f_least_sum_period : ∃ f fd, Fun W.K "least_sum_period" "least_sum_period" s_least_sum_period f fd ∧ mg "least_sum_period" = some (.ref f) ∧ Binds W.K fd ["word"] []
  f_counts_met : ∃ f fd, Fun W.K "counts_met" "counts_met" s_counts_met f fd ∧ mg "counts_met" = some (.ref f) ∧ Binds W.K fd ["word", "counts"] []
  f__law_any : ∃ f fd, Fun W.K "_law_any" "_law_any" s__law_any f fd ∧ mg "_law_any" = some (.ref f) ∧ Binds W.K fd ["hand", "some"] []
  f__law_shuffled : ∃ f fd, Fun W.K "_law_shuffled" "_law_shuffled" s__law_shuffled f fd ∧ mg "_law_shuffled" = some (.ref f) ∧ Binds W.K fd ["hand", "some"] []
  f__law_is : ∃ f fd, Fun W.K "_law_is" "_law_is" s__law_is f fd ∧ mg "_law_is" = some (.ref f) ∧ Binds W.K fd ["said", "due"] []
  f__law_is_int : ∃ f fd, Fun W.K "_law_is_int" "_law_is_int" s__law_is_int f fd ∧ mg "_law_is_int" = some (.ref f) ∧ Binds W.K fd ["thing"] []
  f__law_some : ∃ f fd, Fun W.K "_law_some" "_law_some" s__law_some f fd ∧ mg "_law_some" = some (.ref f) ∧ Binds W.K fd ["hand", "letters", "length"] []
  f__law_word : ∃ f fd, Fun W.K "_law_word" "_law_word" s__law_word f fd ∧ mg "_law_word" = some (.ref f) ∧ Binds W.K fd ["hand", "letters", "most"] []
  f__law_deep : ∃ f fd, Fun W.K "_law_deep" "_law_deep" s__law_deep f fd ∧ mg "_law_deep" = some (.ref f) ∧ Binds W.K fd ["hand"] []
  f__law_counts : ∃ f fd, Fun W.K "_law_counts" "_law_counts" s__law_counts f fd ∧ mg "_law_counts" = some (.ref f) ∧ Binds W.K fd ["word", "many"] []
  f__law_are_same : ∃ f fd, Fun W.K "_law_are_same" "_law_are_same" s__law_are_same f fd ∧ mg "_law_are_same" = some (.ref f) ∧ Binds W.K fd ["one", "other"] []
  f__law_double : ∃ f fd, Fun W.K "_law_double" "_law_double" s__law_double f fd ∧ mg "_law_double" = some (.ref f) ∧ Binds W.K fd ["word"] []
  f__law_is_double : ∃ f fd, Fun W.K "_law_is_double" "_law_is_double" s__law_is_double f fd ∧ mg "_law_is_double" = some (.ref f) ∧ Binds W.K fd ["word", "thing"] []
  f__law_sizes : ∃ f fd, Fun W.K "_law_sizes" "_law_sizes" s__law_sizes f fd ∧ mg "_law_sizes" = some (.ref f) ∧ Binds W.K fd ["word"] []
  f__law_period : ∃ f fd, Fun W.K "_law_period" "_law_period" s__law_period f fd ∧ mg "_law_period" = some (.ref f) ∧ Binds W.K fd ["word"] []
  f__law_met : ∃ f fd, Fun W.K "_law_met" "_law_met" s__law_met f fd ∧ mg "_law_met" = some (.ref f) ∧ Binds W.K fd ["word", "counts"] []
  f__law_made : ∃ f fd, Fun W.K "_law_made" "_law_made" s__law_made f fd ∧ mg "_law_made" = some (.ref f) ∧ Binds W.K fd ["hand"] []
  f__law_near : ∃ f fd, Fun W.K "_law_near" "_law_near" s__law_near f fd ∧ mg "_law_near" = some (.ref f) ∧ Binds W.K fd ["hand", "word"] []
  f__law_is_right : ∃ f fd, Fun W.K "_law_is_right" "_law_is_right" s__law_is_right f fd ∧ mg "_law_is_right" = some (.ref f) ∧ Binds W.K fd ["hand", "word"] []
section
variable {W : Wd} {P : Program} {w : World} {mg : Str → Option Value} {base : Heap}
theorem ps_draw (z_len : mg "len" = none) (z_int : mg "int" = none) {CXg : CXT} {K : PySem.W.Frag} {f : Addr} {cdv : Value} {A : Around} {outer : List Env} {s : Shared} {H : Hp} {E : XK} :
    PSs (cxOf CXg P w K mg base N__law_draw "_law_draw" (defScope s__law_draw) f cdv A outer s H E) (defBody s__law_draw) (tDrawA K 69621 40692 23 2147483629 7919 48271 2147483647 1009 69621 2147483647 2003 40014 2147483563) := by
  have nd : (cxOf CXg P w K mg base N__law_draw "_law_draw" (defScope s__law_draw) f cdv A outer s H E).N.Nodup := sc__law_draw.nd
  exact pss_cons (ps_if ((pw_and (pt_cmpR op_eq (pe_ix ix_list (pv 0) pe_int (fun _ _ => rfl)) pe_int (nomark _)) (pw_and1 (pt_cmpR op_lt (pe_ix ix_list (pv 0) pe_int (fun _ _ => rfl)) (pe_callB call_len_seq (by rfl) z_len bt_len (pa_cons (pe_ix ix_list (pv 0) pe_int (fun _ _ => rfl)) pa_nil)) (nomark _)))).pt)
      (pss_cons (ps_set (i := 2) nd rfl (.inl rfl) (pe_ix ix_list (pe_ix ix_list (pv 0) pe_int (fun _ _ => rfl)) (pe_ix ix_list (pv 0) pe_int (fun _ _ => rfl)) (fun _ _ => rfl)))
      (pss_cons (ps_asg (pe_op op_add (pe_ix ix_list (pv 0) pe_int (fun _ _ => rfl)) pe_int) (pg_sub (pv 0) pe_int set_list (fun _ => rfl)))
      (pss_cons (ps_asg (pe_op op_modN (pe_callTy call_int1 (by rfl) z_int bt_int (pa_cons (pe_op op_add (pe_op op_add (pe_op op_mul (pe_ix ix_list (pv 0) pe_int (fun _ _ => rfl)) pe_int) (pe_op op_mul (pv 2) pe_int)) pe_int) pa_nil)) pe_int) (pg_sub (pv 0) pe_int set_list (fun _ => rfl)))
      (pss_one (ps_if (pt_cmpR op_ge (pv 2) (pe_op op_pow pe_int pe_int) (nomark _)) (pss_one (ps_asg (pv 2) (pg_sub (pv 0) pe_int set_list (fun _ => rfl)))) pss_nil))))) pss_nil)
    (pss_cons (ps_if (pt_cmpR op_gt (pe_ix ix_list (pv 0) pe_int (fun _ _ => rfl)) pe_int (nomark _))
      (pss_cons (ps_set (i := 3) nd rfl (.inl rfl) (pe_op op_modN (pe_callTy call_int1 (by rfl) z_int bt_int (pa_cons (pe_ix ix_list (pv 0) pe_int (fun _ _ => rfl)) pa_nil)) (pv 1)))
      (pss_cons (ps_asg (pe_op op_fdivN (pe_ix ix_list (pv 0) pe_int (fun _ _ => rfl)) (pv 1)) (pg_sub (pv 0) pe_int set_list (fun _ => rfl)))
      (pss_one (ps_ret (pv 3))))) pss_nil)
    (pss_cons (ps_asg (pe_op op_add (pe_ix ix_list (pv 0) pe_int (fun _ _ => rfl)) pe_int) (pg_sub (pv 0) pe_int set_list (fun _ => rfl)))
    (pss_cons (ps_set (i := 4) nd rfl (.inl rfl) (pe_op op_modN (pe_callTy call_int1 (by rfl) z_int bt_int (pa_cons (pe_op op_mul (pe_callTy call_int1 (by rfl) z_int bt_int (pa_cons (pe_op op_add (pe_ix ix_list (pv 0) pe_int (fun _ _ => rfl)) (pe_op op_mul pe_int (pe_ix ix_list (pv 0) pe_int (fun _ _ => rfl)))) pa_nil)) pe_int) pa_nil)) pe_int))
    (pss_cons (ps_set (i := 4) nd rfl (.inl rfl) (pe_op op_modN (pe_callTy call_int1 (by rfl) z_int bt_int (pa_cons (pe_op op_mul (pv 4) (pe_op op_add (pe_op op_fdivN (pv 4) pe_int) pe_int)) pa_nil)) pe_int))
    (pss_cons (ps_set (i := 4) nd rfl (.inl rfl) (pe_op op_modN (pe_callTy call_int1 (by rfl) z_int bt_int (pa_cons (pe_op op_mul (pv 4) (pe_op op_add (pe_op op_fdivN (pv 4) pe_int) pe_int)) pa_nil)) pe_int))
    (pss_one (ps_ret (pe_op op_modN (pe_callTy call_int1 (by rfl) z_int bt_int (pa_cons (pe_op op_fdivN (pv 4) pe_int) pa_nil)) (pv 1)))))))))
theorem ok__law_draw (T : Fc W mg) : CalD W P w mg base "_law_draw" 1 2 (S__law_draw W) := by
  obtain ⟨f, fd, F, hm, hb⟩ := T.f__law_draw
  obtain ⟨hh, eh⟩ := T.hd
  refine CalD.mk' (body := bDraw W) F hm hb sc__law_draw m__law_draw (fun G cdv A outer s H E C => ds_draw eh (ps_draw T.z_len T.z_int) (fun h1 h2 h3 h4 h5 => drawA_ok (by decide) (by decide) (by decide) (by constructor <;> decide) (by constructor <;> decide) (by constructor <;> decide) (by constructor <;> decide) (by constructor <;> decide) (by constructor <;> decide) (by constructor <;> decide) h1 h2 h3 h4 h5)) (fun ds Q Y hl h => ?_)
  obtain ⟨m, rfl, h1, h2, h3⟩ := h
  exact ⟨m, rfl, h1, h2, h3⟩
abbrev b_hand (a : Addr) (ns : List Int) : WS := wSeq (wAsg (wN 1) (wDat (wLc (wItems (wDat (fun env Q Y => env[0]? = some (.dt (.vr (.ref a))) ∧ wNo env (fun l => wSm (wC (.int 63)) env (fun u => Q (cutD (ns.map D.int) l u)) Y) Y))) (wN 2) wYes (wCB absD (wCons (wCB intD (wCons (wVar 2) wNil)) wNil)) [2])))
  (wRetF (wLst (wCons (wVar 1) (wCons (wC (.int 0)) (wCons (wC (.int 0)) (wCons (wOp2 addD (wC (.int 179)) (wOp2 mulD (wC (.int 7)) (wCB lenD (wCons (wVar 1) wNil)))) (wCons (wC (.int 0)) wNil)))))))
theorem h_hand : ∀ a ns Q Y, (∀ (cells : List Int) (i x y z : Int), 0 ≤ i → Q [.lst (cells.map D.int), .int i, .int x, .int y, .int z]) → b_hand a ns (startE N__law_hand [.vr (.ref a)]) (dRetF Q) Y := by
  intro a ns Q Y h
  have e1 : cutD (ns.map D.int) none (some 63) = (ns.take 63).map D.int := by rw [cutD_to (by decide), List.map_take]; rfl
  refine ⟨rfl, _, rfl, ?_⟩
  show (cutD (ns.map D.int) none (some 63)).length ≤ sizeLine ∧ ∀ X', lcRun _ _ _ _ (cutD (ns.map D.int) none (some 63)) _ X'
  rw [e1]
  refine ⟨?_, fun X' => ?_⟩
  · rw [List.length_map, List.length_take]
    exact le_line (Nat.min_le_left _ _) (by decide)
  · refine lc_map (f := D.int) (g := fun i => D.int (if i < 0 then -i else i)) (fun i hi K hK => ⟨_, rfl, i, rfl, hK⟩) ?_
    refine ⟨_, rfl, _, rfl, .inl ⟨by decide, by decide⟩, le_d rfl, _, rfl, ?_⟩
    have := h ((ns.take 63).map fun i => if i < 0 then -i else i) 0 0 (179 + 7 * ((((ns.take 63).map fun i => D.int (if i < 0 then -i else i)).length : Nat) : Int)) 0 (by decide)
    rw [List.map_map] at this
    exact this
theorem ok_hand {K : PySem.W.Frag} {T : List (Addr × Str)} {cls : String → Addr} {f : Addr} {fd : FuncData} (F : Fun K "_law_hand" "_law_hand" s__law_hand f fd) (z_abs : mg "abs" = none) (z_int : mg "int" = none) (z_len : mg "len" = none) : FnOk P w K mg base (L2N.CX P w) 1 f fd ["script"] (spHand K T) := by
  refine hand_ok (k := 0) (cls := cls) (body := b_hand) F sc__law_hand (fun a ns G cdv A outer s H E hs C => ?_) h_hand
  exact dss_cons ((dfp_set (own := [("cell", 2)]) C (blkOk_by (N := N__law_hand) (sc := defScope s__law_hand) (by decide +kernel)) rfl rfl (sw_true rfl rfl rfl (by decide +kernel)) (di_any C.b ((df_script (W := ⟨K, none, T, cls⟩) rfl rfl hs (pv 0) do_none (do_some de_int)).dat)) (by decide) (fun _ _ _ _ _ => dg_name (pg_name (i := 2) C.nd rfl (.inl rfl))) (fun _ _ _ _ _ C1 => dts_nil)
      (fun _ _ _ _ _ C1 => de_cb (fun _ h => pe_callB call_abs (by rfl) z_abs bt_abs h) lift_abs (da_cons (de_cb (fun _ h => pe_callTy call_int1 (by rfl) z_int bt_int h) lift_int (da_cons (de_var (pv 2)) da_nil)) da_nil))).setD)
    (dss_one (ds_retF (df_lst (da_cons (de_var (pv 1)) (da_cons de_int (da_cons de_int (da_cons (de_add C.b de_int (de_mul de_int (de_cb (fun _ h => pe_callB cr_lenA (by rfl) z_len bt_len h) lift_len (da_cons (de_var (pv 1)) da_nil)))) (da_cons de_int da_nil))))))))

theorem d_is_integer (T : Fc W mg) {G H : Hp} {E : XK} {f : Addr} {cdv : Value} {A : Around} {outer : List Env} {s : Shared} (C : DC W E 0 (cxOf (L2N.CX P w) P w W.K mg base N_is_integer "is_integer" (defScope s_is_integer) f cdv A outer s H E)) :
    DSs W G H E (cxOf (L2N.CX P w) P w W.K mg base N_is_integer "is_integer" (defScope s_is_integer) f cdv A outer s H E) (defBody s_is_integer) b_is_integer :=
  dss_one (ds_ret (de_and (de_cb (fun _ h => pe_callB cr_isiA (by rfl) T.z_isinstance bt_isinstance h) lift_isi (da_cons (de_var (pv 0)) (da_cons (de_ty (by rfl) T.z_int bt_int) da_nil))) (de_one (de_not (de_cb (fun _ h => pe_callB cr_isiA (by rfl) T.z_isinstance bt_isinstance h) lift_isi (da_cons (de_var (pv 0)) (da_cons (de_ty (by rfl) T.z_bool bt_bool) da_nil)))))))
theorem ok_is_integer (T : Fc W mg) : CalD W P w mg base "is_integer" 1 1 S_is_integer := by
  obtain ⟨f, fd, F, hm, hb⟩ := T.f_is_integer
  exact CalD.mk' F hm hb sc_is_integer m_is_integer (fun G cdv A outer s H E C => d_is_integer T C) h_is_integer
theorem d_is_within (T : Fc W mg) {G H : Hp} {E : XK} {f : Addr} {cdv : Value} {A : Around} {outer : List Env} {s : Shared} (C : DC W E 1 (cxOf (L2N.CX P w) P w W.K mg base N_is_within "is_within" (defScope s_is_within) f cdv A outer s H E)) :
    DSs W G H E (cxOf (L2N.CX P w) P w W.K mg base N_is_within "is_within" (defScope s_is_within) f cdv A outer s H E) (defBody s_is_within) b_is_within :=
  dss_one (ds_ret (de_and (de_call C ((ok_is_integer T).up (by decide)) rfl (by rfl) (da_cons (de_var (pv 0)) da_nil)) (de_one (de_chain op_le lift_le op_le lift_le (de_var (pv 1)) (de_var (pv 0)) (de_var (pv 2))))))
theorem ok_is_within (T : Fc W mg) : CalD W P w mg base "is_within" 2 3 S_is_within := by
  obtain ⟨f, fd, F, hm, hb⟩ := T.f_is_within
  exact CalD.mk' F hm hb sc_is_within m_is_within (fun G cdv A outer s H E C => d_is_within T C) h_is_within
theorem d_is_tuple_of (T : Fc W mg) {G H : Hp} {E : XK} {f : Addr} {cdv : Value} {A : Around} {outer : List Env} {s : Shared} (C : DC W E 0 (cxOf (L2N.CX P w) P w W.K mg base N_is_tuple_of "is_tuple_of" (defScope s_is_tuple_of) f cdv A outer s H E)) :
    DSs W G H E (cxOf (L2N.CX P w) P w W.K mg base N_is_tuple_of "is_tuple_of" (defScope s_is_tuple_of) f cdv A outer s H E) (defBody s_is_tuple_of) b_is_tuple_of :=
  dss_one (ds_ret (de_and (de_cb (fun _ h => pe_callB cr_isiA (by rfl) T.z_isinstance bt_isinstance h) lift_isi (da_cons (de_var (pv 0)) (da_cons (de_ty (by rfl) T.z_tuple bt_tuple) da_nil))) (de_one (de_cmp (op_eqX C.b) lift_eq (de_cb (fun _ h => pe_callB cr_lenA (by rfl) T.z_len bt_len h) lift_len (da_cons (de_var (pv 0)) da_nil)) (de_var (pv 1)) (nomark _)))))
theorem ok_is_tuple_of (T : Fc W mg) : CalD W P w mg base "is_tuple_of" 1 2 S_is_tuple_of := by
  obtain ⟨f, fd, F, hm, hb⟩ := T.f_is_tuple_of
  exact CalD.mk' F hm hb sc_is_tuple_of m_is_tuple_of (fun G cdv A outer s H E C => d_is_tuple_of T C) h_is_tuple_of
theorem d_is_text (T : Fc W mg) {G H : Hp} {E : XK} {f : Addr} {cdv : Value} {A : Around} {outer : List Env} {s : Shared} (C : DC W E 0 (cxOf (L2N.CX P w) P w W.K mg base N_is_text "is_text" (defScope s_is_text) f cdv A outer s H E)) :
    DSs W G H E (cxOf (L2N.CX P w) P w W.K mg base N_is_text "is_text" (defScope s_is_text) f cdv A outer s H E) (defBody s_is_text) b_is_text :=
  dss_one (ds_ret (de_and (de_cb (fun _ h => pe_callB cr_isiA (by rfl) T.z_isinstance bt_isinstance h) lift_isi (da_cons (de_var (pv 0)) (da_cons (de_ty (by rfl) T.z_str bt_str) da_nil))) (de_and (de_cmp op_le lift_le (de_cb (fun _ h => pe_callB cr_lenA (by rfl) T.z_len bt_len h) lift_len (da_cons (de_var (pv 0)) da_nil)) (de_var (pv 1)) (nomark _)) (de_one (de_cb (fun _ h => pe_callB (cr_all C.calm) (by rfl) T.z_all bt_all h) lift_all (da_cons ((df_comp (own := [("sign", 2)]) C (blkOk_by (N := N_is_text) (sc := defScope s_is_text) (by decide +kernel)) (di_any C.b (de_var (pv 0))) (by decide) (fun _ _ _ _ _ => dg_name (pg_name (i := 2) C.nd rfl (.inl rfl))) (fun _ _ _ _ _ C1 => dts_nil) (fun _ _ _ _ _ C1 => de_cmp (op_inX C1.b) lift_in (de_var (pv 2)) (de_gcS (by rfl) T.g_LETTERS) rfl)).dat) da_nil))))))
theorem ok_is_text (T : Fc W mg) : CalD W P w mg base "is_text" 1 2 S_is_text := by
  obtain ⟨f, fd, F, hm, hb⟩ := T.f_is_text
  exact CalD.mk' F hm hb sc_is_text m_is_text (fun G cdv A outer s H E C => d_is_text T C) h_is_text
theorem d_is_word (T : Fc W mg) {G H : Hp} {E : XK} {f : Addr} {cdv : Value} {A : Around} {outer : List Env} {s : Shared} (C : DC W E 1 (cxOf (L2N.CX P w) P w W.K mg base N_is_word "is_word" (defScope s_is_word) f cdv A outer s H E)) :
    DSs W G H E (cxOf (L2N.CX P w) P w W.K mg base N_is_word "is_word" (defScope s_is_word) f cdv A outer s H E) (defBody s_is_word) b_is_word :=
  dss_one (ds_ret (de_call C ((ok_is_text T).up (by decide)) rfl (by rfl) (da_cons (de_var (pv 0)) (da_cons (de_gcI (by rfl) T.g_MOST_WORD) da_nil))))
theorem ok_is_word (T : Fc W mg) : CalD W P w mg base "is_word" 2 1 S_is_word := by
  obtain ⟨f, fd, F, hm, hb⟩ := T.f_is_word
  exact CalD.mk' F hm hb sc_is_word m_is_word (fun G cdv A outer s H E C => d_is_word T C) h_is_word
theorem d_check_word (T : Fc W mg) {G H : Hp} {E : XK} {f : Addr} {cdv : Value} {A : Around} {outer : List Env} {s : Shared} (C : DC W E 2 (cxOf (L2N.CX P w) P w W.K mg base N_check_word "check_word" (defScope s_check_word) f cdv A outer s H E)) :
    DSs W G H E (cxOf (L2N.CX P w) P w W.K mg base N_check_word "check_word" (defScope s_check_word) f cdv A outer s H E) (defBody s_check_word) b_check_word :=
  dss_one (ds_if (dt_not ((de_call C ((ok_is_word T).up (by decide)) rfl (by rfl) (da_cons (de_var (pv 0)) da_nil)).val)) (dss_one (ds_raise C T.e_BadWord (by rfl))) dss_nil)
theorem ok_check_word (T : Fc W mg) : CalD W P w mg base "check_word" 3 1 S_check_word := by
  obtain ⟨f, fd, F, hm, hb⟩ := T.f_check_word
  exact CalD.mk' F hm hb sc_check_word m_check_word (fun G cdv A outer s H E C => d_check_word T C) h_check_word
theorem d_check_words (T : Fc W mg) {G H : Hp} {E : XK} {f : Addr} {cdv : Value} {A : Around} {outer : List Env} {s : Shared} (C : DC W E 3 (cxOf (L2N.CX P w) P w W.K mg base N_check_words "check_words" (defScope s_check_words) f cdv A outer s H E)) :
    DSs W G H E (cxOf (L2N.CX P w) P w W.K mg base N_check_words "check_words" (defScope s_check_words) f cdv A outer s H E) (defBody s_check_words) b_check_words :=
  dss_cons (ds_expr (de_call C ((ok_check_word T).up (by decide)) rfl (by rfl) (da_cons (de_var (pv 0)) da_nil))) (dss_one (ds_expr (de_call C ((ok_check_word T).up (by decide)) rfl (by rfl) (da_cons (de_var (pv 1)) da_nil))))
theorem ok_check_words (T : Fc W mg) : CalD W P w mg base "check_words" 4 2 S_check_words := by
  obtain ⟨f, fd, F, hm, hb⟩ := T.f_check_words
  exact CalD.mk' F hm hb sc_check_words m_check_words (fun G cdv A outer s H E C => d_check_words T C) h_check_words
theorem d_same_letters (T : Fc W mg) {G H : Hp} {E : XK} {f : Addr} {cdv : Value} {A : Around} {outer : List Env} {s : Shared} (C : DC W E 4 (cxOf (L2N.CX P w) P w W.K mg base N_same_letters "same_letters" (defScope s_same_letters) f cdv A outer s H E)) :
    DSs W G H E (cxOf (L2N.CX P w) P w W.K mg base N_same_letters "same_letters" (defScope s_same_letters) f cdv A outer s H E) (defBody s_same_letters) b_same_letters :=
  dss_cons (ds_expr (de_call C ((ok_check_words T).up (by decide)) rfl (by rfl) (da_cons (de_var (pv 0)) (da_cons (de_var (pv 1)) da_nil)))) (dss_one (ds_ret (de_cmp (op_eqX C.b) lift_eq ((df_cb (fun _ h => pe_callB (cr_sortedA C.calm) (by rfl) T.z_sorted bt_sorted h) lift_sorted (da_cons (de_var (pv 0)) da_nil)).dat) ((df_cb (fun _ h => pe_callB (cr_sortedA C.calm) (by rfl) T.z_sorted bt_sorted h) lift_sorted (da_cons (de_var (pv 1)) da_nil)).dat) (nomark _))))
theorem ok_same_letters (T : Fc W mg) : CalD W P w mg base "same_letters" 5 2 S_same_letters := by
  obtain ⟨f, fd, F, hm, hb⟩ := T.f_same_letters
  exact CalD.mk' F hm hb sc_same_letters m_same_letters (fun G cdv A outer s H E C => d_same_letters T C) h_same_letters
theorem d_first_double (T : Fc W mg) {G H : Hp} {E : XK} {f : Addr} {cdv : Value} {A : Around} {outer : List Env} {s : Shared} (C : DC W E 3 (cxOf (L2N.CX P w) P w W.K mg base N_first_double "first_double" (defScope s_first_double) f cdv A outer s H E)) :
    DSs W G H E (cxOf (L2N.CX P w) P w W.K mg base N_first_double "first_double" (defScope s_first_double) f cdv A outer s H E) (defBody s_first_double) b_first_double :=
  dss_cons (ds_expr (de_call C ((ok_check_word T).up (by decide)) rfl (by rfl) (da_cons (de_var (pv 0)) da_nil))) (dss_cons (ds_if (dt_cmp op_gt lift_gt (de_cb (fun _ h => pe_callB cr_lenA (by rfl) T.z_len bt_len h) lift_len (da_cons (de_var (pv 0)) da_nil)) (de_gcI (by rfl) T.g_MOST_LONG) (nomark _)) (dss_one (ds_raise1 C (by decide) (T.x_TooMany _ _ _) (by rfl) (de_gcI (by rfl) T.g_MOST_LONG))) dss_nil) (dss_cons (ds_for C (di_range2 (by rfl) T.z_range de_int (de_add C.b (de_cb (fun _ h => pe_callB cr_lenA (by rfl) T.z_len bt_len h) lift_len (da_cons (de_var (pv 0)) da_nil)) de_int)) (dg_name (pg_name (i := 1) C.nd rfl (.inl rfl))) (dss_one (ds_for C (di_range2 (by rfl) T.z_range de_int (de_add C.b (de_op op_fdivN lift_fdiv (de_var (pv 1)) de_int) de_int)) (dg_name (pg_name (i := 2) C.nd rfl (.inl rfl))) (dss_one (ds_if (dt_cmp (op_eqX C.b) lift_eq ((df_cb (fun _ h => pe_callB (cr_sortedA C.calm) (by rfl) T.z_sorted bt_sorted h) lift_sorted (da_cons (de_slice C.b (de_var (pv 0)) (do_some (de_op op_sub lift_sub (de_var (pv 1)) (de_var (pv 2)))) (do_some (de_var (pv 1)))) da_nil)).dat) ((df_cb (fun _ h => pe_callB (cr_sortedA C.calm) (by rfl) T.z_sorted bt_sorted h) lift_sorted (da_cons (de_slice C.b (de_var (pv 0)) (do_some (de_op op_sub lift_sub (de_var (pv 1)) (de_mul de_int (de_var (pv 2))))) (do_some (de_op op_sub lift_sub (de_var (pv 1)) (de_var (pv 2))))) da_nil)).dat) (nomark _)) (dss_one (ds_ret (de_tup (da_cons (de_op op_sub lift_sub (de_var (pv 1)) (de_mul de_int (de_var (pv 2)))) (da_cons (de_var (pv 2)) da_nil))))) dss_nil))))) (dss_one (ds_ret de_non))))
theorem ok_first_double (T : Fc W mg) : CalD W P w mg base "first_double" 4 1 S_first_double := by
  obtain ⟨f, fd, F, hm, hb⟩ := T.f_first_double
  exact CalD.mk' F hm hb sc_first_double m_first_double (fun G cdv A outer s H E C => d_first_double T C) h_first_double
theorem d_is_double (T : Fc W mg) {G H : Hp} {E : XK} {f : Addr} {cdv : Value} {A : Around} {outer : List Env} {s : Shared} (C : DC W E 3 (cxOf (L2N.CX P w) P w W.K mg base N_is_double "is_double" (defScope s_is_double) f cdv A outer s H E)) :
    DSs W G H E (cxOf (L2N.CX P w) P w W.K mg base N_is_double "is_double" (defScope s_is_double) f cdv A outer s H E) (defBody s_is_double) b_is_double :=
  dss_cons (ds_expr (de_call C ((ok_check_word T).up (by decide)) rfl (by rfl) (da_cons (de_var (pv 0)) da_nil))) (dss_cons (ds_if ((dw_or (dt_not ((de_call C ((ok_is_tuple_of T).up (by decide)) rfl (by rfl) (da_cons (de_var (pv 1)) (da_cons de_int da_nil))).val)) (dw_or (dt_not ((de_call C ((ok_is_within T).up (by decide)) rfl (by rfl) (da_cons (de_ix C.b (de_var (pv 1)) de_int (fun _ _ => rfl)) (da_cons de_int (da_cons (de_cb (fun _ h => pe_callB cr_lenA (by rfl) T.z_len bt_len h) lift_len (da_cons (de_var (pv 0)) da_nil)) da_nil)))).val)) (dw_one2 (dt_not ((de_call C ((ok_is_within T).up (by decide)) rfl (by rfl) (da_cons (de_ix C.b (de_var (pv 1)) de_int (fun _ _ => rfl)) (da_cons de_int (da_cons (de_cb (fun _ h => pe_callB cr_lenA (by rfl) T.z_len bt_len h) lift_len (da_cons (de_var (pv 0)) da_nil)) da_nil)))).val))))).t) (dss_one (ds_ret de_bl)) dss_nil) (dss_cons (ds_asg (de_var (pv 1)) (dg_tup (n := 2) C (dgs_cons (dg_name (pg_name (i := 2) C.nd rfl (.inl rfl))) (dgs_cons (dg_name (pg_name (i := 3) C.nd rfl (.inl rfl))) dgs_nil)) (fun h => pg_tup C.calm h))) (dss_cons (ds_if (dt_cmp op_gt lift_gt (de_add C.b (de_var (pv 2)) (de_mul de_int (de_var (pv 3)))) (de_cb (fun _ h => pe_callB cr_lenA (by rfl) T.z_len bt_len h) lift_len (da_cons (de_var (pv 0)) da_nil)) (nomark _)) (dss_one (ds_ret de_bl)) dss_nil) (dss_one (ds_ret (de_cmp (op_eqX C.b) lift_eq ((df_cb (fun _ h => pe_callB (cr_sortedA C.calm) (by rfl) T.z_sorted bt_sorted h) lift_sorted (da_cons (de_slice C.b (de_var (pv 0)) (do_some (de_var (pv 2))) (do_some (de_add C.b (de_var (pv 2)) (de_var (pv 3))))) da_nil)).dat) ((df_cb (fun _ h => pe_callB (cr_sortedA C.calm) (by rfl) T.z_sorted bt_sorted h) lift_sorted (da_cons (de_slice C.b (de_var (pv 0)) (do_some (de_add C.b (de_var (pv 2)) (de_var (pv 3)))) (do_some (de_add C.b (de_var (pv 2)) (de_mul de_int (de_var (pv 3)))))) da_nil)).dat) (nomark _)))))))
theorem ok_is_double (T : Fc W mg) : CalD W P w mg base "is_double" 4 2 S_is_double := by
  obtain ⟨f, fd, F, hm, hb⟩ := T.f_is_double
  exact CalD.mk' F hm hb sc_is_double m_is_double (fun G cdv A outer s H E C => d_is_double T C) h_is_double
theorem d_sum_sizes (T : Fc W mg) {G H : Hp} {E : XK} {f : Addr} {cdv : Value} {A : Around} {outer : List Env} {s : Shared} (C : DC W E 3 (cxOf (L2N.CX P w) P w W.K mg base N_sum_sizes "sum_sizes" (defScope s_sum_sizes) f cdv A outer s H E)) :
    DSs W G H E (cxOf (L2N.CX P w) P w W.K mg base N_sum_sizes "sum_sizes" (defScope s_sum_sizes) f cdv A outer s H E) (defBody s_sum_sizes) b_sum_sizes :=
  dss_cons (ds_expr (de_call C ((ok_check_word T).up (by decide)) rfl (by rfl) (da_cons (de_var (pv 0)) da_nil))) (dss_cons (ds_if (dt_cmp op_gt lift_gt (de_cb (fun _ h => pe_callB cr_lenA (by rfl) T.z_len bt_len h) lift_len (da_cons (de_var (pv 0)) da_nil)) (de_gcI (by rfl) T.g_MOST_LONG) (nomark _)) (dss_one (ds_raise1 C (by decide) (T.x_TooMany _ _ _) (by rfl) (de_gcI (by rfl) T.g_MOST_LONG))) dss_nil) (dss_cons (ds_asgF (fun _ h => ps_set (i := 1) C.nd rfl (.inl rfl) h) (df_lst da_nil)) (dss_cons (ds_for C (di_range1 (by rfl) T.z_range (de_add C.b (de_cb (fun _ h => pe_callB cr_lenA (by rfl) T.z_len bt_len h) lift_len (da_cons (de_var (pv 0)) da_nil)) de_int)) (dg_name (pg_name (i := 2) C.nd rfl (.inr rfl))) (dss_one (ds_append (fun _ h => pe_bm PySem.F.plainAttrs_list PySem.F.slot_list_append PySem.F.type_list_append mt_append (pv 1) (pa_cons h pa_nil)) (de_lenScC (own := [("at", 3)]) C (by rfl) T.z_len (blkOk_by (N := N_sum_sizes) (sc := defScope s_sum_sizes) (by decide +kernel)) (di_range1 (by rfl) T.z_range (de_add C.b (de_op op_sub lift_sub (de_cb (fun _ h => pe_callB cr_lenA (by rfl) T.z_len bt_len h) lift_len (da_cons (de_var (pv 0)) da_nil)) (de_var (pv 2))) de_int)) (by decide) (fun _ _ _ _ _ => dg_name (pg_name (i := 3) C.nd rfl (.inl rfl))) (fun _ _ _ _ _ C1 => dts_nil) (fun _ _ _ _ _ C1 => de_join C1.b (de_str (s := []) rfl) ((df_cb (fun _ h => pe_callB (cr_sortedA C1.calm) (by rfl) T.z_sorted bt_sorted h) lift_sorted (da_cons (de_slice C1.b (de_var (pv 0)) (do_some (de_var (pv 3))) (do_some (de_add C1.b (de_var (pv 3)) (de_var (pv 2))))) da_nil)).dat)))))) (dss_one (ds_ret (de_tupleL C.b (fun _ h => pe_callTy cr_tupA (by rfl) T.z_tuple bt_tuple h) (dl_own (pv 1))))))))
theorem ok_sum_sizes (T : Fc W mg) : CalD W P w mg base "sum_sizes" 4 1 S_sum_sizes := by
  obtain ⟨f, fd, F, hm, hb⟩ := T.f_sum_sizes
  exact CalD.mk' F hm hb sc_sum_sizes m_sum_sizes (fun G cdv A outer s H E C => d_sum_sizes T C) h_sum_sizes
theorem d_is_sum_period (T : Fc W mg) {G H : Hp} {E : XK} {f : Addr} {cdv : Value} {A : Around} {outer : List Env} {s : Shared} (C : DC W E 0 (cxOf (L2N.CX P w) P w W.K mg base N_is_sum_period "is_sum_period" (defScope s_is_sum_period) f cdv A outer s H E)) :
    DSs W G H E (cxOf (L2N.CX P w) P w W.K mg base N_is_sum_period "is_sum_period" (defScope s_is_sum_period) f cdv A outer s H E) (defBody s_is_sum_period) b_is_sum_period :=
  dss_cons (ds_set (i := 2) (fun _ h => ps_set (i := 2) C.nd rfl (.inr rfl) h) ((df_cb (fun _ h => pe_callB (cr_sortedA C.calm) (by rfl) T.z_sorted bt_sorted h) lift_sorted (da_cons (de_slice C.b (de_var (pv 0)) do_none (do_some (de_var (pv 1)))) da_nil)).dat)) (dss_cons (ds_for C (di_range3 (by rfl) T.z_range (de_var (pv 1)) (de_cb (fun _ h => pe_callB cr_lenA (by rfl) T.z_len bt_len h) lift_len (da_cons (de_var (pv 0)) da_nil)) (de_var (pv 1)) (fun _ h => pi_range3 (by rfl) T.z_range h)) (dg_name (pg_name (i := 3) C.nd rfl (.inl rfl))) (dss_cons (ds_set (i := 4) (fun _ h => ps_set (i := 4) C.nd rfl (.inr rfl) h) (de_slice C.b (de_var (pv 0)) (do_some (de_var (pv 3))) (do_some (de_add C.b (de_var (pv 3)) (de_var (pv 1)))))) (dss_cons (ds_if ((dw_and (dt_cmp (op_eqX C.b) lift_eq (de_cb (fun _ h => pe_callB cr_lenA (by rfl) T.z_len bt_len h) lift_len (da_cons (de_var (pv 4)) da_nil)) (de_var (pv 1)) (nomark _)) (dw_one1 (dt_cmp (op_neX C.b) lift_ne ((df_cb (fun _ h => pe_callB (cr_sortedA C.calm) (by rfl) T.z_sorted bt_sorted h) lift_sorted (da_cons (de_var (pv 4)) da_nil)).dat) (de_var (pv 2)) (nomark _)))).t) (dss_one (ds_ret de_bl)) dss_nil) (dss_one (ds_if ((de_cb (fun _ h => pe_callB (cr_any C.calm) (by rfl) T.z_any bt_any h) lift_any (da_cons ((df_comp (own := [("letter", 5)]) C (blkOk_by (N := N_is_sum_period) (sc := defScope s_is_sum_period) (by decide +kernel)) (di_any C.b ((df_sortedSet C.calm (by rfl) T.z_sorted (by rfl) T.z_set (de_var (pv 4))).dat)) (by decide) (fun _ _ _ _ _ => dg_name (pg_name (i := 5) C.nd rfl (.inl rfl))) (fun _ _ _ _ _ C1 => dts_nil) (fun _ _ _ _ _ C1 => de_cmp op_gt lift_gt (de_mstr (fun _ _ ho h => pe_bm PySem.F.plainAttrs_str PySem.F.slot_str_count PySem.F.type_str_count mt_count ho h) lift_countS (de_var (pv 4)) (da_cons (de_var (pv 5)) da_nil)) (de_mlst (fun _ _ ho h => pe_bm PySem.F.plainAttrs_list PySem.F.slot_list_count PySem.F.type_list_count mt_countF ho h) lift_countL (de_var (pv 2)) (da_cons (de_var (pv 5)) da_nil)) (nomark _))).dat) da_nil)).val) (dss_one (ds_ret de_bl)) dss_nil))))) (dss_one (ds_ret de_bl)))
theorem ok_is_sum_period (T : Fc W mg) : CalD W P w mg base "is_sum_period" 1 2 S_is_sum_period := by
  obtain ⟨f, fd, F, hm, hb⟩ := T.f_is_sum_period
  exact CalD.mk' F hm hb sc_is_sum_period m_is_sum_period (fun G cdv A outer s H E C => d_is_sum_period T C) h_is_sum_period
theorem d_least_sum_period (T : Fc W mg) {G H : Hp} {E : XK} {f : Addr} {cdv : Value} {A : Around} {outer : List Env} {s : Shared} (C : DC W E 3 (cxOf (L2N.CX P w) P w W.K mg base N_least_sum_period "least_sum_period" (defScope s_least_sum_period) f cdv A outer s H E)) :
    DSs W G H E (cxOf (L2N.CX P w) P w W.K mg base N_least_sum_period "least_sum_period" (defScope s_least_sum_period) f cdv A outer s H E) (defBody s_least_sum_period) b_least_sum_period :=
  dss_cons (ds_expr (de_call C ((ok_check_word T).up (by decide)) rfl (by rfl) (da_cons (de_var (pv 0)) da_nil))) (dss_cons (ds_if (dt_cmp op_gt lift_gt (de_cb (fun _ h => pe_callB cr_lenA (by rfl) T.z_len bt_len h) lift_len (da_cons (de_var (pv 0)) da_nil)) (de_gcI (by rfl) T.g_MOST_LONG) (nomark _)) (dss_one (ds_raise1 C (by decide) (T.x_TooMany _ _ _) (by rfl) (de_gcI (by rfl) T.g_MOST_LONG))) dss_nil) (dss_cons (ds_for C (di_range2 (by rfl) T.z_range de_int (de_add C.b (de_cb (fun _ h => pe_callB cr_lenA (by rfl) T.z_len bt_len h) lift_len (da_cons (de_var (pv 0)) da_nil)) de_int)) (dg_name (pg_name (i := 1) C.nd rfl (.inl rfl))) (dss_one (ds_if ((de_call C ((ok_is_sum_period T).up (by decide)) rfl (by rfl) (da_cons (de_var (pv 0)) (da_cons (de_var (pv 1)) da_nil))).val) (dss_one (ds_ret (de_var (pv 1)))) dss_nil))) (dss_one (ds_ret de_int))))
theorem ok_least_sum_period (T : Fc W mg) : CalD W P w mg base "least_sum_period" 4 1 S_least_sum_period := by
  obtain ⟨f, fd, F, hm, hb⟩ := T.f_least_sum_period
  exact CalD.mk' F hm hb sc_least_sum_period m_least_sum_period (fun G cdv A outer s H E C => d_least_sum_period T C) h_least_sum_period
theorem d_counts_met (T : Fc W mg) {G H : Hp} {E : XK} {f : Addr} {cdv : Value} {A : Around} {outer : List Env} {s : Shared} (C : DC W E 3 (cxOf (L2N.CX P w) P w W.K mg base N_counts_met "counts_met" (defScope s_counts_met) f cdv A outer s H E)) :
    DSs W G H E (cxOf (L2N.CX P w) P w W.K mg base N_counts_met "counts_met" (defScope s_counts_met) f cdv A outer s H E) (defBody s_counts_met) b_counts_met :=
  dss_cons (ds_expr (de_call C ((ok_check_word T).up (by decide)) rfl (by rfl) (da_cons (de_var (pv 0)) da_nil))) (dss_cons (ds_if ((dw_or (dt_not ((de_cb (fun _ h => pe_callB cr_isiA (by rfl) T.z_isinstance bt_isinstance h) lift_isi (da_cons (de_var (pv 1)) (da_cons (de_ty (by rfl) T.z_tuple bt_tuple) da_nil))).val)) (dw_one2 (dt_not (dt_chain op_le lift_le op_le lift_le de_int (de_cb (fun _ h => pe_callB cr_lenA (by rfl) T.z_len bt_len h) lift_len (da_cons (de_var (pv 1)) da_nil)) de_int)))).t) (dss_one (ds_raise C T.e_BadNumber (by rfl))) dss_nil) (dss_cons (ds_if (dt_not ((de_cb (fun _ h => pe_callB (cr_all C.calm) (by rfl) T.z_all bt_all h) lift_all (da_cons ((df_comp (own := [("one", 2)]) C (blkOk_by (N := N_counts_met) (sc := defScope s_counts_met) (by decide +kernel)) (di_any C.b (de_var (pv 1))) (by decide) (fun _ _ _ _ _ => dg_name (pg_name (i := 2) C.nd rfl (.inl rfl))) (fun _ _ _ _ _ C1 => dts_nil) (fun _ _ _ _ _ C1 => de_call C1 ((ok_is_within T).up (by decide)) rfl (by rfl) (da_cons (de_var (pv 2)) (da_cons de_int (da_cons de_int da_nil))))).dat) da_nil)).val)) (dss_one (ds_raise C T.e_BadNumber (by rfl))) dss_nil) (dss_cons (ds_set (i := 3) (fun _ h => ps_set (i := 3) C.nd rfl (.inl rfl) h) (de_cb (fun _ h => pe_callB (cr_sumT C.calm) (by rfl) T.z_sum bt_sum h) lift_sumT (da_cons (de_var (pv 1)) da_nil))) (dss_cons (ds_set (i := 4) (fun _ h => ps_set (i := 4) C.nd rfl (.inl rfl) h) (de_cb (fun _ h => pe_callTy call_tupleT (by rfl) T.z_tuple bt_tuple h) lift_tupT (da_cons (de_var (pv 1)) da_nil))) (dss_cons (ds_for C (di_range1 (by rfl) T.z_range (de_add C.b (de_op op_sub lift_sub (de_cb (fun _ h => pe_callB cr_lenA (by rfl) T.z_len bt_len h) lift_len (da_cons (de_var (pv 0)) da_nil)) (de_var (pv 3))) de_int)) (dg_name (pg_name (i := 5) C.nd rfl (.inl rfl))) (dss_cons (ds_set (i := 6) (fun _ h => ps_set (i := 6) C.nd rfl (.inr rfl) h) (de_slice C.b (de_var (pv 0)) (do_some (de_var (pv 5))) (do_some (de_add C.b (de_var (pv 5)) (de_var (pv 3)))))) (dss_one (ds_if (dt_cmp (op_eqX C.b) lift_eq (de_tupleL C.b (fun _ h => pe_callTy cr_tupA (by rfl) T.z_tuple bt_tuple h) ((df_comp (own := [("letter", 7)]) C (blkOk_by (N := N_counts_met) (sc := defScope s_counts_met) (by decide +kernel)) (di_any C.b (de_slice C.b (de_gcS (by rfl) T.g_LETTERS) do_none (do_some (de_cb (fun _ h => pe_callB cr_lenA (by rfl) T.z_len bt_len h) lift_len (da_cons (de_var (pv 1)) da_nil))))) (by decide) (fun _ _ _ _ _ => dg_name (pg_name (i := 7) C.nd rfl (.inl rfl))) (fun _ _ _ _ _ C1 => dts_nil) (fun _ _ _ _ _ C1 => de_mstr (fun _ _ ho h => pe_bm PySem.F.plainAttrs_str PySem.F.slot_str_count PySem.F.type_str_count mt_count ho h) lift_countS (de_var (pv 6)) (da_cons (de_var (pv 7)) da_nil))).rd)) (de_var (pv 4)) (nomark _)) (dss_one (ds_ret (de_var (pv 5)))) dss_nil)))) (dss_one (ds_ret de_non)))))))
theorem ok_counts_met (T : Fc W mg) : CalD W P w mg base "counts_met" 4 2 S_counts_met := by
  obtain ⟨f, fd, F, hm, hb⟩ := T.f_counts_met
  exact CalD.mk' F hm hb sc_counts_met m_counts_met (fun G cdv A outer s H E C => d_counts_met T C) h_counts_met
theorem d__law_any (T : Fc W mg) {G H : Hp} {E : XK} {f : Addr} {cdv : Value} {A : Around} {outer : List Env} {s : Shared} (C : DC W E 1 (cxOf (L2N.CX P w) P w W.K mg base N__law_any "_law_any" (defScope s__law_any) f cdv A outer s H E)) :
    DSs W G H E (cxOf (L2N.CX P w) P w W.K mg base N__law_any "_law_any" (defScope s__law_any) f cdv A outer s H E) (defBody s__law_any) (b__law_any W) :=
  dss_one (ds_ret (de_ix C.b (de_var (pv 1)) (de_call C ((ok__law_draw T).up (by decide)) rfl (by rfl) (da_cons (de_var (pv 0)) (da_cons (de_cb (fun _ h => pe_callB cr_lenA (by rfl) T.z_len bt_len h) lift_len (da_cons (de_var (pv 1)) da_nil)) da_nil))) (fun _ _ => rfl)))
theorem ok__law_any (T : Fc W mg) : CalD W P w mg base "_law_any" 2 2 (S__law_any W) := by
  obtain ⟨f, fd, F, hm, hb⟩ := T.f__law_any
  exact CalD.mk' F hm hb sc__law_any m__law_any (fun G cdv A outer s H E C => d__law_any T C) h__law_any
theorem d__law_shuffled (T : Fc W mg) {G H : Hp} {E : XK} {f : Addr} {cdv : Value} {A : Around} {outer : List Env} {s : Shared} (C : DC W E 1 (cxOf (L2N.CX P w) P w W.K mg base N__law_shuffled "_law_shuffled" (defScope s__law_shuffled) f cdv A outer s H E)) :
    DSs W G H E (cxOf (L2N.CX P w) P w W.K mg base N__law_shuffled "_law_shuffled" (defScope s__law_shuffled) f cdv A outer s H E) (defBody s__law_shuffled) (b__law_shuffled W) :=
  dss_cons (ds_par (fun _ h => ps_par (by rfl) C.nd rfl rfl (by decide) rfl rfl h (by rfl)) (dm_f (df_cb (fun _ h => pe_callTy (cr_listB C.calm) (by rfl) T.z_list bt_list h) lift_listA (da_cons (de_var (pv 1)) da_nil)) (dm_f (df_lst da_nil) dm_nil))) (dss_cons (ds_while C (dt_borC 2 (de_cmp op_gt lift_gt (de_cb (fun _ h => pe_callB cr_lenA (by rfl) T.z_len bt_len h) lift_len (da_cons (de_var (pv 2)) da_nil)) de_int (nomark _)) (dt_cmp op_gt lift_gt (de_cb (fun _ h => pe_callB cr_lenA (by rfl) T.z_len bt_len h) lift_len (da_cons (de_var (pv 2)) da_nil)) de_int (nomark _))) (dss_one (ds_appendX (fun _ h => pe_bm PySem.F.plainAttrs_list PySem.F.slot_list_append PySem.F.type_list_append mt_append (pv 3) (pa_cons h pa_nil)) (dx_popAt (fun _ h => pe_bm PySem.F.plainAttrs_list PySem.F.slot_list_pop PySem.F.type_list_pop mt_popAt (pv 2) (pa_cons h pa_nil)) (de_call C ((ok__law_draw T).up (by decide)) rfl (by rfl) (da_cons (de_var (pv 0)) (da_cons (DE.bor 2 (de_cb (fun _ h => pe_callB cr_lenA (by rfl) T.z_len bt_len h) lift_len (da_cons (de_var (pv 2)) da_nil))) da_nil))))))) (dss_one (ds_retOwn (pv 3))))
theorem ok__law_shuffled (T : Fc W mg) : CalD W P w mg base "_law_shuffled" 2 2 (S__law_shuffled W) := by
  obtain ⟨f, fd, F, hm, hb⟩ := T.f__law_shuffled
  exact CalD.mk' F hm hb sc__law_shuffled m__law_shuffled (fun G cdv A outer s H E C => d__law_shuffled T C) h__law_shuffled
theorem d__law_is (T : Fc W mg) {k : Nat} {SR : SpecD} (KR : CalD W P w mg base "_law_is" k 2 SR) {G H : Hp} {E : XK} {f : Addr} {cdv : Value} {A : Around} {outer : List Env} {s : Shared} (C : DC W E k (cxOf (L2N.CX P w) P w W.K mg base N__law_is "_law_is" (defScope s__law_is) f cdv A outer s H E)) :
    DSs W G H E (cxOf (L2N.CX P w) P w W.K mg base N__law_is "_law_is" (defScope s__law_is) f cdv A outer s H E) (defBody s__law_is) (b__law_is SR) :=
  dss_cons (ds_if ((de_isiT C.b (fun _ h => pe_callB cr_isiA (by rfl) T.z_isinstance bt_isinstance h) (de_var (pv 1)) (pa_tyc (by rfl) T.z_tuple bt_tuple (pa_tyc (by rfl) T.z_list bt_list (pa_tyn))) (by decide)).val) (dss_cons (ds_if ((dw_or (dt_cmp (op_neX C.b) lift_ne (de_cb (fun _ h => pe_callB cr_isiA (by rfl) T.z_isinstance bt_isinstance h) lift_isi (da_cons (de_var (pv 0)) (da_cons (de_ty (by rfl) T.z_tuple bt_tuple) da_nil))) (de_cb (fun _ h => pe_callB cr_isiA (by rfl) T.z_isinstance bt_isinstance h) lift_isi (da_cons (de_var (pv 1)) (da_cons (de_ty (by rfl) T.z_tuple bt_tuple) da_nil))) (nomark _)) (dw_one2 (dt_cmp (op_neX C.b) lift_ne (de_cb (fun _ h => pe_callB cr_isiA (by rfl) T.z_isinstance bt_isinstance h) lift_isi (da_cons (de_var (pv 0)) (da_cons (de_ty (by rfl) T.z_list bt_list) da_nil))) (de_cb (fun _ h => pe_callB cr_isiA (by rfl) T.z_isinstance bt_isinstance h) lift_isi (da_cons (de_var (pv 1)) (da_cons (de_ty (by rfl) T.z_list bt_list) da_nil))) (nomark _)))).t) (dss_one (ds_ret de_bl)) dss_nil) (dss_one (ds_ret (de_and (de_cmp (op_eqX C.b) lift_eq (de_cb (fun _ h => pe_callB cr_lenA (by rfl) T.z_len bt_len h) lift_len (da_cons (de_var (pv 0)) da_nil)) (de_cb (fun _ h => pe_callB cr_lenA (by rfl) T.z_len bt_len h) lift_len (da_cons (de_var (pv 1)) da_nil)) (nomark _)) (de_one (de_cb (fun _ h => pe_callB (cr_all C.calm) (by rfl) T.z_all bt_all h) lift_all (da_cons ((df_comp (own := [("one", 2), ("other", 3)]) C (blkOk_by (N := N__law_is) (sc := defScope s__law_is) (by decide +kernel)) (di_zip C.b (by rfl) T.z_zip (de_var (pv 0)) (de_var (pv 1))) (by decide) (fun _ _ _ _ _ => dg_tup (n := 2) (C.blk _ _ _ _ _ _) (dgs_cons (dg_name (pg_name (i := 2) C.nd rfl (.inl rfl))) (dgs_cons (dg_name (pg_name (i := 3) C.nd rfl (.inl rfl))) dgs_nil)) (fun h => pg_tup C.calm h)) (fun _ _ _ _ _ C1 => dts_nil) (fun _ _ _ _ _ C1 => de_call C1 KR rfl (by rfl) (da_cons (de_var (pv 2)) (da_cons (de_var (pv 3)) da_nil)))).dat) da_nil))))))) dss_nil) (dss_cons (ds_if ((dw_or (dt_cmp op_isN lift_isN (de_var (pv 1)) de_non (nomark _)) (dw_one2 (dt_cmp op_isN lift_isN (de_var (pv 0)) de_non (nomark _)))).t) (dss_one (ds_ret (de_and (de_cmp op_isN lift_isN (de_var (pv 1)) de_non (nomark _)) (de_one (de_cmp op_isN lift_isN (de_var (pv 0)) de_non (nomark _)))))) dss_nil) (dss_cons (ds_if ((dw_or (dt_cmp (op_neX C.b) lift_ne (de_cb (fun _ h => pe_callB cr_isiA (by rfl) T.z_isinstance bt_isinstance h) lift_isi (da_cons (de_var (pv 0)) (da_cons (de_ty (by rfl) T.z_bool bt_bool) da_nil))) (de_cb (fun _ h => pe_callB cr_isiA (by rfl) T.z_isinstance bt_isinstance h) lift_isi (da_cons (de_var (pv 1)) (da_cons (de_ty (by rfl) T.z_bool bt_bool) da_nil))) (nomark _)) (dw_one2 (dt_cmp (op_neX C.b) lift_ne (de_cb (fun _ h => pe_callB cr_isiA (by rfl) T.z_isinstance bt_isinstance h) lift_isi (da_cons (de_var (pv 0)) (da_cons (de_ty (by rfl) T.z_int bt_int) da_nil))) (de_cb (fun _ h => pe_callB cr_isiA (by rfl) T.z_isinstance bt_isinstance h) lift_isi (da_cons (de_var (pv 1)) (da_cons (de_ty (by rfl) T.z_int bt_int) da_nil))) (nomark _)))).t) (dss_one (ds_ret de_bl)) dss_nil) (dss_one (ds_ret (de_and (de_cmp (op_eqX C.b) lift_eq (de_cb (fun _ h => pe_callB cr_isiA (by rfl) T.z_isinstance bt_isinstance h) lift_isi (da_cons (de_var (pv 0)) (da_cons (de_ty (by rfl) T.z_str bt_str) da_nil))) (de_cb (fun _ h => pe_callB cr_isiA (by rfl) T.z_isinstance bt_isinstance h) lift_isi (da_cons (de_var (pv 1)) (da_cons (de_ty (by rfl) T.z_str bt_str) da_nil))) (nomark _)) (de_one (de_cmp (op_eqX C.b) lift_eq (de_var (pv 0)) (de_var (pv 1)) (nomark _))))))))
theorem okR__law_is (T : Fc W mg) : ∀ j, CalD W P w mg base "_law_is" (j + 1) 2 (S_isR j)
  | 0 => by
    obtain ⟨f, fd, F, hm, hb⟩ := T.f__law_is
    exact CalD.none F hm hb sc__law_is
  | j + 1 => by
    obtain ⟨f, fd, F, hm, hb⟩ := T.f__law_is
    exact CalD.mk' F hm hb sc__law_is (m_isR (j + 1)) (fun G cdv A outer s H E C => d__law_is T (okR__law_is T j) C) (h_isR j)
theorem ok__law_is (T : Fc W mg) : CalD W P w mg base "_law_is" 5 2 S__law_is := okR__law_is T 4
theorem d__law_is_int (T : Fc W mg) {G H : Hp} {E : XK} {f : Addr} {cdv : Value} {A : Around} {outer : List Env} {s : Shared} (C : DC W E 0 (cxOf (L2N.CX P w) P w W.K mg base N__law_is_int "_law_is_int" (defScope s__law_is_int) f cdv A outer s H E)) :
    DSs W G H E (cxOf (L2N.CX P w) P w W.K mg base N__law_is_int "_law_is_int" (defScope s__law_is_int) f cdv A outer s H E) (defBody s__law_is_int) b__law_is_int :=
  dss_one (ds_ret (de_and (de_cb (fun _ h => pe_callB cr_isiA (by rfl) T.z_isinstance bt_isinstance h) lift_isi (da_cons (de_var (pv 0)) (da_cons (de_ty (by rfl) T.z_int bt_int) da_nil))) (de_one (de_not (de_cb (fun _ h => pe_callB cr_isiA (by rfl) T.z_isinstance bt_isinstance h) lift_isi (da_cons (de_var (pv 0)) (da_cons (de_ty (by rfl) T.z_bool bt_bool) da_nil)))))))
theorem ok__law_is_int (T : Fc W mg) : CalD W P w mg base "_law_is_int" 1 1 S__law_is_int := by
  obtain ⟨f, fd, F, hm, hb⟩ := T.f__law_is_int
  exact CalD.mk' F hm hb sc__law_is_int m__law_is_int (fun G cdv A outer s H E C => d__law_is_int T C) h__law_is_int
theorem d__law_some (T : Fc W mg) {G H : Hp} {E : XK} {f : Addr} {cdv : Value} {A : Around} {outer : List Env} {s : Shared} (C : DC W E 2 (cxOf (L2N.CX P w) P w W.K mg base N__law_some "_law_some" (defScope s__law_some) f cdv A outer s H E)) :
    DSs W G H E (cxOf (L2N.CX P w) P w W.K mg base N__law_some "_law_some" (defScope s__law_some) f cdv A outer s H E) (defBody s__law_some) (b__law_some W) :=
  dss_one (ds_ret (de_join C.b (de_str (s := []) rfl) ((df_comp (own := [("at", 3)]) C (blkOk_by (N := N__law_some) (sc := defScope s__law_some) (by decide +kernel)) (di_range1 (by rfl) T.z_range (de_var (pv 2))) (by decide) (fun _ _ _ _ _ => dg_name (pg_name (i := 3) C.nd rfl (.inl rfl))) (fun _ _ _ _ _ C1 => dts_nil) (fun _ _ _ _ _ C1 => de_call C1 ((ok__law_any T).up (by decide)) rfl (by rfl) (da_cons (de_var (pv 0)) (da_cons (de_var (pv 1)) da_nil)))).dat)))
theorem ok__law_some (T : Fc W mg) : CalD W P w mg base "_law_some" 3 3 (S__law_some W) := by
  obtain ⟨f, fd, F, hm, hb⟩ := T.f__law_some
  exact CalD.mk' F hm hb sc__law_some m__law_some (fun G cdv A outer s H E C => d__law_some T C) h__law_some
theorem d__law_word (T : Fc W mg) {G H : Hp} {E : XK} {f : Addr} {cdv : Value} {A : Around} {outer : List Env} {s : Shared} (C : DC W E 3 (cxOf (L2N.CX P w) P w W.K mg base N__law_word "_law_word" (defScope s__law_word) f cdv A outer s H E)) :
    DSs W G H E (cxOf (L2N.CX P w) P w W.K mg base N__law_word "_law_word" (defScope s__law_word) f cdv A outer s H E) (defBody s__law_word) (b__law_word W) :=
  dss_cons (ds_par (fun _ h => ps_par (by rfl) C.nd rfl rfl (by decide) rfl rfl h (by rfl)) (dm_d (de_call C ((ok__law_draw T).up (by decide)) rfl (by rfl) (da_cons (de_var (pv 0)) (da_cons de_int da_nil))) (dm_d (de_call C ((ok__law_draw T).up (by decide)) rfl (by rfl) (da_cons (de_var (pv 0)) (da_cons (de_add C.b (de_var (pv 2)) de_int) da_nil))) dm_nil))) (dss_cons (ds_if (dt_cmp op_lt lift_lt (de_var (pv 3)) de_int (nomark _)) (dss_one (ds_ret (de_call C ((ok__law_some T).up (by decide)) rfl (by rfl) (da_cons (de_var (pv 0)) (da_cons (de_var (pv 1)) (da_cons (de_var (pv 4)) da_nil)))))) dss_nil) (dss_cons (ds_if (dt_cmp op_lt lift_lt (de_var (pv 3)) de_int (nomark _)) (dss_cons (ds_set (i := 5) (fun _ h => ps_set (i := 5) C.nd rfl (.inl rfl) h) (de_call C ((ok__law_some T).up (by decide)) rfl (by rfl) (da_cons (de_var (pv 0)) (da_cons (de_var (pv 1)) (da_cons (de_add C.b de_int (de_call C ((ok__law_draw T).up (by decide)) rfl (by rfl) (da_cons (de_var (pv 0)) (da_cons (de_call C ((ok__law_any T).up (by decide)) rfl (by rfl) (da_cons (de_var (pv 0)) (da_cons ((df_lst (da_cons de_int (da_cons de_int (da_cons de_int da_nil)))).dat) da_nil))) da_nil)))) da_nil))))) (dss_one (ds_ret (de_slice C.b (de_mul (de_var (pv 5)) (de_add C.b (de_op op_fdivN lift_fdiv (de_var (pv 4)) (de_cb (fun _ h => pe_callB cr_lenA (by rfl) T.z_len bt_len h) lift_len (da_cons (de_var (pv 5)) da_nil))) de_int)) do_none (do_some (de_var (pv 4))))))) dss_nil) (dss_cons (ds_if (dt_cmp (op_eqX C.b) lift_eq (de_var (pv 3)) de_int (nomark _)) (dss_cons (ds_par (fun _ h => ps_par (by rfl) C.nd rfl rfl (by decide) rfl rfl h (by rfl)) (dm_d (de_slice C.b (de_var (pv 1)) do_none (do_some de_int)) (dm_d (de_add C.b (de_slice C.b (de_var (pv 1)) do_none (do_some de_int)) (de_slice C.b (de_var (pv 1)) (do_some de_int) (do_some de_int))) dm_nil))) (dss_cons (ds_while C (dt_cmp op_lt lift_lt (de_cb (fun _ h => pe_callB cr_lenA (by rfl) T.z_len bt_len h) lift_len (da_cons (de_var (pv 7)) da_nil)) (de_var (pv 4)) (nomark _)) (dss_one (ds_par (fun _ h => ps_par (by rfl) C.nd rfl rfl (by decide) rfl rfl h (by rfl)) (dm_d (de_var (pv 7)) (dm_d (de_add C.b (de_var (pv 7)) (de_var (pv 6))) dm_nil))))) (dss_one (ds_ret (de_slice C.b (de_var (pv 7)) do_none (do_some (de_var (pv 4)))))))) dss_nil) (dss_one (ds_ret (de_mul (de_call C ((ok__law_any T).up (by decide)) rfl (by rfl) (da_cons (de_var (pv 0)) (da_cons (de_var (pv 1)) da_nil))) (de_var (pv 4))))))))
theorem ok__law_word (T : Fc W mg) : CalD W P w mg base "_law_word" 4 3 (S__law_word W) := by
  obtain ⟨f, fd, F, hm, hb⟩ := T.f__law_word
  exact CalD.mk' F hm hb sc__law_word m__law_word (fun G cdv A outer s H E C => d__law_word T C) h__law_word
theorem d__law_deep (T : Fc W mg) {G H : Hp} {E : XK} {f : Addr} {cdv : Value} {A : Around} {outer : List Env} {s : Shared} (C : DC W E 2 (cxOf (L2N.CX P w) P w W.K mg base N__law_deep "_law_deep" (defScope s__law_deep) f cdv A outer s H E)) :
    DSs W G H E (cxOf (L2N.CX P w) P w W.K mg base N__law_deep "_law_deep" (defScope s__law_deep) f cdv A outer s H E) (defBody s__law_deep) (b__law_deep W) :=
  dss_cons (ds_set (i := 1) (fun _ h => ps_set (i := 1) C.nd rfl (.inl rfl) h) (de_call C ((ok__law_any T).up (by decide)) rfl (by rfl) (da_cons (de_var (pv 0)) (da_cons ((df_lst (da_cons de_non (da_cons (de_str (s := [48]) rfl) (da_cons de_bl da_nil)))).dat) da_nil)))) (dss_cons (ds_for C (di_range1 (by rfl) T.z_range (de_add C.b de_int (de_call C ((ok__law_draw T).up (by decide)) rfl (by rfl) (da_cons (de_var (pv 0)) (da_cons de_int da_nil))))) (dg_name (pg_name (i := 2) C.nd rfl (.inl rfl))) (dss_one (ds_set (i := 1) (fun _ h => ps_set (i := 1) C.nd rfl (.inl rfl) h) (de_ix C.b ((df_lst (da_cons (de_tup (da_cons (de_var (pv 1)) da_nil)) (da_cons ((df_lst (da_cons (de_var (pv 1)) da_nil)).dat) (da_cons (de_disp1 (key := .inl 0) pe_int (de_var (pv 1))) da_nil)))).dat) (de_call C ((ok__law_draw T).up (by decide)) rfl (by rfl) (da_cons (de_var (pv 0)) (da_cons de_int da_nil))) (fun _ _ => rfl))))) (dss_one (ds_ret (de_var (pv 1)))))
theorem ok__law_deep (T : Fc W mg) : CalD W P w mg base "_law_deep" 3 1 (S__law_deep W) := by
  obtain ⟨f, fd, F, hm, hb⟩ := T.f__law_deep
  exact CalD.mk' F hm hb sc__law_deep m__law_deep (fun G cdv A outer s H E C => d__law_deep T C) h__law_deep
theorem d__law_counts (T : Fc W mg) {G H : Hp} {E : XK} {f : Addr} {cdv : Value} {A : Around} {outer : List Env} {s : Shared} (C : DC W E 0 (cxOf (L2N.CX P w) P w W.K mg base N__law_counts "_law_counts" (defScope s__law_counts) f cdv A outer s H E)) :
    DSs W G H E (cxOf (L2N.CX P w) P w W.K mg base N__law_counts "_law_counts" (defScope s__law_counts) f cdv A outer s H E) (defBody s__law_counts) b__law_counts :=
  dss_one (ds_ret (de_tupleL C.b (fun _ h => pe_callTy cr_tupA (by rfl) T.z_tuple bt_tuple h) ((df_comp (own := [("letter", 2)]) C (blkOk_by (N := N__law_counts) (sc := defScope s__law_counts) (by decide +kernel)) (di_any C.b (de_slice C.b (de_str (s := [97, 98, 99, 100, 101, 102, 103, 104, 105, 106, 107, 108, 109, 110, 111, 112, 113, 114, 115, 116, 117, 118, 119, 120, 121, 122]) rfl) do_none (do_some (de_var (pv 1))))) (by decide) (fun _ _ _ _ _ => dg_name (pg_name (i := 2) C.nd rfl (.inl rfl))) (fun _ _ _ _ _ C1 => dts_nil) (fun _ _ _ _ _ C1 => de_mstr (fun _ _ ho h => pe_bm PySem.F.plainAttrs_str PySem.F.slot_str_count PySem.F.type_str_count mt_count ho h) lift_countS (de_var (pv 0)) (da_cons (de_var (pv 2)) da_nil))).rd)))
theorem ok__law_counts (T : Fc W mg) : CalD W P w mg base "_law_counts" 1 2 S__law_counts := by
  obtain ⟨f, fd, F, hm, hb⟩ := T.f__law_counts
  exact CalD.mk' F hm hb sc__law_counts m__law_counts (fun G cdv A outer s H E C => d__law_counts T C) h__law_counts
theorem d__law_are_same (T : Fc W mg) {G H : Hp} {E : XK} {f : Addr} {cdv : Value} {A : Around} {outer : List Env} {s : Shared} (C : DC W E 0 (cxOf (L2N.CX P w) P w W.K mg base N__law_are_same "_law_are_same" (defScope s__law_are_same) f cdv A outer s H E)) :
    DSs W G H E (cxOf (L2N.CX P w) P w W.K mg base N__law_are_same "_law_are_same" (defScope s__law_are_same) f cdv A outer s H E) (defBody s__law_are_same) b__law_are_same :=
  dss_one (ds_ret (de_cmp (op_eqX C.b) lift_eq ((df_cb (fun _ h => pe_callB (cr_sortedA C.calm) (by rfl) T.z_sorted bt_sorted h) lift_sorted (da_cons (de_var (pv 0)) da_nil)).dat) ((df_cb (fun _ h => pe_callB (cr_sortedA C.calm) (by rfl) T.z_sorted bt_sorted h) lift_sorted (da_cons (de_var (pv 1)) da_nil)).dat) (nomark _)))
theorem ok__law_are_same (T : Fc W mg) : CalD W P w mg base "_law_are_same" 1 2 S__law_are_same := by
  obtain ⟨f, fd, F, hm, hb⟩ := T.f__law_are_same
  exact CalD.mk' F hm hb sc__law_are_same m__law_are_same (fun G cdv A outer s H E C => d__law_are_same T C) h__law_are_same
theorem d__law_double (T : Fc W mg) {G H : Hp} {E : XK} {f : Addr} {cdv : Value} {A : Around} {outer : List Env} {s : Shared} (C : DC W E 1 (cxOf (L2N.CX P w) P w W.K mg base N__law_double "_law_double" (defScope s__law_double) f cdv A outer s H E)) :
    DSs W G H E (cxOf (L2N.CX P w) P w W.K mg base N__law_double "_law_double" (defScope s__law_double) f cdv A outer s H E) (defBody s__law_double) b__law_double :=
  dss_cons (ds_for C (di_range2 (by rfl) T.z_range de_int (de_add C.b (de_cb (fun _ h => pe_callB cr_lenA (by rfl) T.z_len bt_len h) lift_len (da_cons (de_var (pv 0)) da_nil)) de_int)) (dg_name (pg_name (i := 1) C.nd rfl (.inl rfl))) (dss_one (ds_for C (di_range2 (by rfl) T.z_range de_int (de_add C.b (de_op op_fdivN lift_fdiv (de_var (pv 1)) de_int) de_int)) (dg_name (pg_name (i := 2) C.nd rfl (.inl rfl))) (dss_one (ds_if ((de_call C ((ok__law_are_same T).up (by decide)) rfl (by rfl) (da_cons (de_slice C.b (de_var (pv 0)) (do_some (de_op op_sub lift_sub (de_var (pv 1)) (de_mul de_int (de_var (pv 2))))) (do_some (de_op op_sub lift_sub (de_var (pv 1)) (de_var (pv 2))))) (da_cons (de_slice C.b (de_var (pv 0)) (do_some (de_op op_sub lift_sub (de_var (pv 1)) (de_var (pv 2)))) (do_some (de_var (pv 1)))) da_nil))).val) (dss_one (ds_ret (de_tup (da_cons (de_op op_sub lift_sub (de_var (pv 1)) (de_mul de_int (de_var (pv 2)))) (da_cons (de_var (pv 2)) da_nil))))) dss_nil))))) (dss_one (ds_ret de_non))
theorem ok__law_double (T : Fc W mg) : CalD W P w mg base "_law_double" 2 1 S__law_double := by
  obtain ⟨f, fd, F, hm, hb⟩ := T.f__law_double
  exact CalD.mk' F hm hb sc__law_double m__law_double (fun G cdv A outer s H E C => d__law_double T C) h__law_double
theorem d__law_is_double (T : Fc W mg) {G H : Hp} {E : XK} {f : Addr} {cdv : Value} {A : Around} {outer : List Env} {s : Shared} (C : DC W E 1 (cxOf (L2N.CX P w) P w W.K mg base N__law_is_double "_law_is_double" (defScope s__law_is_double) f cdv A outer s H E)) :
    DSs W G H E (cxOf (L2N.CX P w) P w W.K mg base N__law_is_double "_law_is_double" (defScope s__law_is_double) f cdv A outer s H E) (defBody s__law_is_double) b__law_is_double :=
  dss_cons (ds_if ((dw_or (dt_not ((de_cb (fun _ h => pe_callB cr_isiA (by rfl) T.z_isinstance bt_isinstance h) lift_isi (da_cons (de_var (pv 1)) (da_cons (de_ty (by rfl) T.z_tuple bt_tuple) da_nil))).val)) (dw_or (dt_cmp (op_neX C.b) lift_ne (de_cb (fun _ h => pe_callB cr_lenA (by rfl) T.z_len bt_len h) lift_len (da_cons (de_var (pv 1)) da_nil)) de_int (nomark _)) (dw_one2 (dt_not ((de_cb (fun _ h => pe_callB (cr_all C.calm) (by rfl) T.z_all bt_all h) lift_all (da_cons ((df_comp (own := [("part", 2)]) C (blkOk_by (N := N__law_is_double) (sc := defScope s__law_is_double) (by decide +kernel)) (di_any C.b (de_var (pv 1))) (by decide) (fun _ _ _ _ _ => dg_name (pg_name (i := 2) C.nd rfl (.inl rfl))) (fun _ _ _ _ _ C1 => dts_nil) (fun _ _ _ _ _ C1 => de_call C1 ((ok__law_is_int T).up (by decide)) rfl (by rfl) (da_cons (de_var (pv 2)) da_nil))).dat) da_nil)).val))))).t) (dss_one (ds_ret de_bl)) dss_nil) (dss_cons (ds_asg (de_var (pv 1)) (dg_tup (n := 2) C (dgs_cons (dg_name (pg_name (i := 3) C.nd rfl (.inl rfl))) (dgs_cons (dg_name (pg_name (i := 4) C.nd rfl (.inl rfl))) dgs_nil)) (fun h => pg_tup C.calm h))) (dss_cons (ds_if ((dw_or (dt_cmp op_lt lift_lt (de_var (pv 3)) de_int (nomark _)) (dw_or (dt_cmp op_lt lift_lt (de_var (pv 4)) de_int (nomark _)) (dw_one2 (dt_cmp op_gt lift_gt (de_add C.b (de_var (pv 3)) (de_mul de_int (de_var (pv 4)))) (de_cb (fun _ h => pe_callB cr_lenA (by rfl) T.z_len bt_len h) lift_len (da_cons (de_var (pv 0)) da_nil)) (nomark _))))).t) (dss_one (ds_ret de_bl)) dss_nil) (dss_one (ds_ret (de_call C ((ok__law_are_same T).up (by decide)) rfl (by rfl) (da_cons (de_slice C.b (de_var (pv 0)) (do_some (de_var (pv 3))) (do_some (de_add C.b (de_var (pv 3)) (de_var (pv 4))))) (da_cons (de_slice C.b (de_var (pv 0)) (do_some (de_add C.b (de_var (pv 3)) (de_var (pv 4)))) (do_some (de_add C.b (de_var (pv 3)) (de_mul de_int (de_var (pv 4)))))) da_nil)))))))
theorem ok__law_is_double (T : Fc W mg) : CalD W P w mg base "_law_is_double" 2 2 S__law_is_double := by
  obtain ⟨f, fd, F, hm, hb⟩ := T.f__law_is_double
  exact CalD.mk' F hm hb sc__law_is_double m__law_is_double (fun G cdv A outer s H E C => d__law_is_double T C) h__law_is_double
theorem d__law_sizes (T : Fc W mg) {G H : Hp} {E : XK} {f : Addr} {cdv : Value} {A : Around} {outer : List Env} {s : Shared} (C : DC W E 0 (cxOf (L2N.CX P w) P w W.K mg base N__law_sizes "_law_sizes" (defScope s__law_sizes) f cdv A outer s H E)) :
    DSs W G H E (cxOf (L2N.CX P w) P w W.K mg base N__law_sizes "_law_sizes" (defScope s__law_sizes) f cdv A outer s H E) (defBody s__law_sizes) b__law_sizes :=
  dss_cons (ds_asgF (fun _ h => ps_set (i := 1) C.nd rfl (.inl rfl) h) (df_lst da_nil)) (dss_cons (ds_for C (di_range1 (by rfl) T.z_range (de_add C.b (de_cb (fun _ h => pe_callB cr_lenA (by rfl) T.z_len bt_len h) lift_len (da_cons (de_var (pv 0)) da_nil)) de_int)) (dg_name (pg_name (i := 2) C.nd rfl (.inr rfl))) (dss_cons ((dfp_set (own := [("at", 3)]) C (blkOk_by (N := N__law_sizes) (sc := defScope s__law_sizes) (by decide +kernel)) rfl rfl (sw_true rfl rfl rfl (by decide +kernel)) (di_range1 (by rfl) T.z_range (de_add C.b (de_op op_sub lift_sub (de_cb (fun _ h => pe_callB cr_lenA (by rfl) T.z_len bt_len h) lift_len (da_cons (de_var (pv 0)) da_nil)) (de_var (pv 2))) de_int)) (by decide) (fun _ _ _ _ _ => dg_name (pg_name (i := 3) C.nd rfl (.inl rfl))) (fun _ _ _ _ _ C1 => dts_nil) (fun _ _ _ _ _ C1 => de_tupleL C1.b (fun _ h => pe_callTy cr_tupA (by rfl) T.z_tuple bt_tuple h) ((df_cb (fun _ h => pe_callB (cr_sortedA C1.calm) (by rfl) T.z_sorted bt_sorted h) lift_sorted (da_cons (de_slice C1.b (de_var (pv 0)) (do_some (de_var (pv 3))) (do_some (de_add C1.b (de_var (pv 3)) (de_var (pv 2))))) da_nil)).rd))).setD) (dss_one (ds_append (fun _ h => pe_bm PySem.F.plainAttrs_list PySem.F.slot_list_append PySem.F.type_list_append mt_append (pv 1) (pa_cons h pa_nil)) (de_lenDictT C.b C.calm (by rfl) T.z_len (by rfl) T.z_dict ((df_comp (own := [("one", 5)]) C (blkOk_by (N := N__law_sizes) (sc := defScope s__law_sizes) (by decide +kernel)) (di_any C.b (de_var (pv 4))) (by decide) (fun _ _ _ _ _ => dg_name (pg_name (i := 5) C.nd rfl (.inl rfl))) (fun _ _ _ _ _ C1 => dts_nil) (fun _ _ _ _ _ C1 => de_tup (da_cons (de_var (pv 5)) (da_cons de_bl da_nil)))).dat)))))) (dss_one (ds_retOwn (pv 1))))
theorem ok__law_sizes (T : Fc W mg) : CalD W P w mg base "_law_sizes" 1 1 S__law_sizes := by
  obtain ⟨f, fd, F, hm, hb⟩ := T.f__law_sizes
  exact CalD.mk' F hm hb sc__law_sizes m__law_sizes (fun G cdv A outer s H E C => d__law_sizes T C) h__law_sizes
theorem d__law_period (T : Fc W mg) {G H : Hp} {E : XK} {f : Addr} {cdv : Value} {A : Around} {outer : List Env} {s : Shared} (C : DC W E 1 (cxOf (L2N.CX P w) P w W.K mg base N__law_period "_law_period" (defScope s__law_period) f cdv A outer s H E)) :
    DSs W G H E (cxOf (L2N.CX P w) P w W.K mg base N__law_period "_law_period" (defScope s__law_period) f cdv A outer s H E) (defBody s__law_period) b__law_period :=
  dss_cons (ds_for C (di_range2 (by rfl) T.z_range de_int (de_add C.b (de_cb (fun _ h => pe_callB cr_lenA (by rfl) T.z_len bt_len h) lift_len (da_cons (de_var (pv 0)) da_nil)) de_int)) (dg_name (pg_name (i := 1) C.nd rfl (.inr rfl))) (dss_cons (ds_set (i := 3) (fun _ h => ps_set (i := 3) C.nd rfl (.inr rfl) h) ((df_comp (own := [("at", 2)]) C (blkOk_by (N := N__law_period) (sc := defScope s__law_period) (by decide +kernel)) (di_range3 (by rfl) T.z_range de_int (de_add C.b (de_op op_sub lift_sub (de_cb (fun _ h => pe_callB cr_lenA (by rfl) T.z_len bt_len h) lift_len (da_cons (de_var (pv 0)) da_nil)) (de_var (pv 1))) de_int) (de_var (pv 1)) (fun _ h => pi_range3 (by rfl) T.z_range h)) (by decide) (fun _ _ _ _ _ => dg_name (pg_name (i := 2) C.nd rfl (.inl rfl))) (fun _ _ _ _ _ C1 => dts_nil) (fun _ _ _ _ _ C1 => de_slice C1.b (de_var (pv 0)) (do_some (de_var (pv 2))) (do_some (de_add C1.b (de_var (pv 2)) (de_var (pv 1)))))).dat)) (dss_cons (ds_set (i := 4) (fun _ h => ps_set (i := 4) C.nd rfl (.inr rfl) h) (de_slice C.b (de_var (pv 0)) (do_some (de_mul (de_cb (fun _ h => pe_callB cr_lenA (by rfl) T.z_len bt_len h) lift_len (da_cons (de_var (pv 3)) da_nil)) (de_var (pv 1)))) do_none)) (dss_one (ds_if ((de_cb (fun _ h => pe_callB (cr_all C.calm) (by rfl) T.z_all bt_all h) lift_all (da_cons ((df_comp (own := [("part", 5)]) C (blkOk_by (N := N__law_period) (sc := defScope s__law_period) (by decide +kernel)) (di_any C.b (de_var (pv 3))) (by decide) (fun _ _ _ _ _ => dg_name (pg_name (i := 5) C.nd rfl (.inl rfl))) (fun _ _ _ _ _ C1 => dts_nil) (fun _ _ _ _ _ C1 => de_call C1 ((ok__law_are_same T).up (by decide)) rfl (by rfl) (da_cons (de_ix C1.b (de_var (pv 3)) de_int (fun _ _ => rfl)) (da_cons (de_var (pv 5)) da_nil)))).dat) da_nil)).val) (dss_one (ds_if ((de_cb (fun _ h => pe_callB (cr_all C.calm) (by rfl) T.z_all bt_all h) lift_all (da_cons ((df_comp (own := [("letter", 6)]) C (blkOk_by (N := N__law_period) (sc := defScope s__law_period) (by decide +kernel)) (di_any C.b (de_var (pv 4))) (by decide) (fun _ _ _ _ _ => dg_name (pg_name (i := 6) C.nd rfl (.inl rfl))) (fun _ _ _ _ _ C1 => dts_nil) (fun _ _ _ _ _ C1 => de_cmp op_le lift_le (de_mstr (fun _ _ ho h => pe_bm PySem.F.plainAttrs_str PySem.F.slot_str_count PySem.F.type_str_count mt_count ho h) lift_countS (de_var (pv 4)) (da_cons (de_var (pv 6)) da_nil)) (de_mstr (fun _ _ ho h => pe_bm PySem.F.plainAttrs_str PySem.F.slot_str_count PySem.F.type_str_count mt_count ho h) lift_countS (de_ix C1.b (de_var (pv 3)) de_int (fun _ _ => rfl)) (da_cons (de_var (pv 6)) da_nil)) (nomark _))).dat) da_nil)).val) (dss_one (ds_ret (de_var (pv 1)))) dss_nil)) dss_nil))))) (dss_one (ds_ret de_int))
theorem ok__law_period (T : Fc W mg) : CalD W P w mg base "_law_period" 2 1 S__law_period := by
  obtain ⟨f, fd, F, hm, hb⟩ := T.f__law_period
  exact CalD.mk' F hm hb sc__law_period m__law_period (fun G cdv A outer s H E C => d__law_period T C) h__law_period
theorem d__law_met (T : Fc W mg) {G H : Hp} {E : XK} {f : Addr} {cdv : Value} {A : Around} {outer : List Env} {s : Shared} (C : DC W E 1 (cxOf (L2N.CX P w) P w W.K mg base N__law_met "_law_met" (defScope s__law_met) f cdv A outer s H E)) :
    DSs W G H E (cxOf (L2N.CX P w) P w W.K mg base N__law_met "_law_met" (defScope s__law_met) f cdv A outer s H E) (defBody s__law_met) b__law_met :=
  dss_cons (ds_par (fun _ h => ps_par (by rfl) C.nd rfl rfl (by decide) rfl rfl h (by rfl)) (dm_d (de_cb (fun _ h => pe_callB (cr_sumT C.calm) (by rfl) T.z_sum bt_sum h) lift_sumT (da_cons (de_var (pv 1)) da_nil)) (dm_d (de_cb (fun _ h => pe_callB cr_lenA (by rfl) T.z_len bt_len h) lift_len (da_cons (de_var (pv 1)) da_nil)) dm_nil))) (dss_cons (ds_for C (di_range1 (by rfl) T.z_range (de_add C.b (de_op op_sub lift_sub (de_cb (fun _ h => pe_callB cr_lenA (by rfl) T.z_len bt_len h) lift_len (da_cons (de_var (pv 0)) da_nil)) (de_var (pv 2))) de_int)) (dg_name (pg_name (i := 4) C.nd rfl (.inl rfl))) (dss_cons (ds_set (i := 5) (fun _ h => ps_set (i := 5) C.nd rfl (.inl rfl) h) (de_slice C.b (de_var (pv 0)) (do_some (de_var (pv 4))) (do_some (de_add C.b (de_var (pv 4)) (de_var (pv 2)))))) (dss_one (ds_if ((dw_and (dt_cmp (op_eqX C.b) lift_eq (de_call C ((ok__law_counts T).up (by decide)) rfl (by rfl) (da_cons (de_var (pv 5)) (da_cons (de_var (pv 3)) da_nil))) (de_var (pv 1)) (nomark _)) (dw_one1 (dt_cmp (op_eqX C.b) lift_eq (de_cb (fun _ h => pe_callB (cr_sumT C.calm) (by rfl) T.z_sum bt_sum h) lift_sumT (da_cons (de_call C ((ok__law_counts T).up (by decide)) rfl (by rfl) (da_cons (de_var (pv 5)) (da_cons (de_var (pv 3)) da_nil))) da_nil)) (de_cb (fun _ h => pe_callB cr_lenA (by rfl) T.z_len bt_len h) lift_len (da_cons (de_var (pv 5)) da_nil)) (nomark _)))).t) (dss_one (ds_ret (de_var (pv 4)))) dss_nil)))) (dss_one (ds_ret de_non)))
theorem ok__law_met (T : Fc W mg) : CalD W P w mg base "_law_met" 2 2 S__law_met := by
  obtain ⟨f, fd, F, hm, hb⟩ := T.f__law_met
  exact CalD.mk' F hm hb sc__law_met m__law_met (fun G cdv A outer s H E C => d__law_met T C) h__law_met
theorem d__law_made (T : Fc W mg) {G H : Hp} {E : XK} {f : Addr} {cdv : Value} {A : Around} {outer : List Env} {s : Shared} (C : DC W E 4 (cxOf (L2N.CX P w) P w W.K mg base N__law_made "_law_made" (defScope s__law_made) f cdv A outer s H E)) :
    DSs W G H E (cxOf (L2N.CX P w) P w W.K mg base N__law_made "_law_made" (defScope s__law_made) f cdv A outer s H E) (defBody s__law_made) (b__law_made W) :=
  dss_cons (ds_par (fun _ h => ps_par (by rfl) C.nd rfl rfl (by decide) rfl rfl h (by rfl)) (dm_d (de_add C.b (de_call C ((ok__law_word T).up (by decide)) rfl (by rfl) (da_cons (de_var (pv 0)) (da_cons (de_call C ((ok__law_any T).up (by decide)) rfl (by rfl) (da_cons (de_var (pv 0)) (da_cons ((df_lst (da_cons (de_str (s := [97]) rfl) (da_cons (de_str (s := [97, 98]) rfl) (da_cons (de_str (s := [97, 98, 99]) rfl) da_nil)))).dat) da_nil))) (da_cons de_int da_nil)))) (de_str (s := [97]) rfl)) (dm_d (de_str (s := []) rfl) dm_nil))) (dss_cons (ds_for C (di_range1 (by rfl) T.z_range (de_add C.b de_int (de_call C ((ok__law_draw T).up (by decide)) rfl (by rfl) (da_cons (de_var (pv 0)) (da_cons de_int da_nil))))) (dg_name (pg_name (i := 3) C.nd rfl (.inl rfl))) (dss_one (ds_set (i := 2) (fun _ h => ps_set (i := 2) C.nd rfl (.inl rfl) h) (de_add C.b (de_var (pv 2)) (de_join C.b (de_str (s := []) rfl) (de_call C ((ok__law_shuffled T).up (by decide)) rfl (by rfl) (da_cons (de_var (pv 0)) (da_cons (de_var (pv 1)) da_nil)))))))) (dss_one (ds_ret (de_add C.b (de_var (pv 2)) (de_slice C.b (de_join C.b (de_str (s := []) rfl) (de_call C ((ok__law_shuffled T).up (by decide)) rfl (by rfl) (da_cons (de_var (pv 0)) (da_cons (de_var (pv 1)) da_nil)))) do_none (do_some (de_call C ((ok__law_draw T).up (by decide)) rfl (by rfl) (da_cons (de_var (pv 0)) (da_cons (de_cb (fun _ h => pe_callB cr_lenA (by rfl) T.z_len bt_len h) lift_len (da_cons (de_var (pv 1)) da_nil)) da_nil)))))))))
theorem ok__law_made (T : Fc W mg) : CalD W P w mg base "_law_made" 5 1 (S__law_made W) := by
  obtain ⟨f, fd, F, hm, hb⟩ := T.f__law_made
  exact CalD.mk' F hm hb sc__law_made m__law_made (fun G cdv A outer s H E C => d__law_made T C) h__law_made
theorem d__law_near (T : Fc W mg) {G H : Hp} {E : XK} {f : Addr} {cdv : Value} {A : Around} {outer : List Env} {s : Shared} (C : DC W E 3 (cxOf (L2N.CX P w) P w W.K mg base N__law_near "_law_near" (defScope s__law_near) f cdv A outer s H E)) :
    DSs W G H E (cxOf (L2N.CX P w) P w W.K mg base N__law_near "_law_near" (defScope s__law_near) f cdv A outer s H E) (defBody s__law_near) (b__law_near W) :=
  dss_cons (ds_par (fun _ h => ps_par (by rfl) C.nd rfl rfl (by decide) rfl rfl h (by rfl)) (dm_d (de_call C ((ok__law_double T).up (by decide)) rfl (by rfl) (da_cons (de_var (pv 1)) da_nil)) (dm_d (de_cb (fun _ h => pe_callB cr_lenA (by rfl) T.z_len bt_len h) lift_len (da_cons (de_var (pv 1)) da_nil)) dm_nil))) (dss_cons (ds_asgF (fun _ h => ps_set (i := 4) C.nd rfl (.inl rfl) h) (df_lst (da_cons (de_var (pv 2)) (da_cons de_non (da_cons (de_tup da_nil) (da_cons (de_tup (da_cons de_int (da_cons de_int da_nil))) (da_cons (de_tup (da_cons de_int da_nil)) (da_cons (de_tup (da_cons de_int (da_cons de_int (da_cons de_int da_nil)))) (da_cons ((df_lst (da_cons de_int (da_cons de_int da_nil))).dat) (da_cons (de_tup (da_cons de_bl (da_cons de_int da_nil))) (da_cons (de_tup (da_cons de_int (da_cons de_bl da_nil))) (da_cons (de_tup (da_cons (de_str (s := [48]) rfl) (da_cons de_int da_nil))) (da_cons de_int (da_cons de_dict0 (da_cons (de_tup (da_cons (de_un un_neg lift_neg de_int) (da_cons de_int da_nil))) da_nil))))))))))))))) (dss_cons (ds_append (fun _ h => pe_bm PySem.F.plainAttrs_list PySem.F.slot_list_append PySem.F.type_list_append mt_append (pv 4) (pa_cons h pa_nil)) (de_call C ((ok__law_deep T).up (by decide)) rfl (by rfl) (da_cons (de_var (pv 0)) da_nil))) (dss_cons (ds_for C (di_range1 (by rfl) T.z_range de_int) (dg_name (pg_name (i := 5) C.nd rfl (.inl rfl))) (dss_one (ds_append (fun _ h => pe_bm PySem.F.plainAttrs_list PySem.F.slot_list_append PySem.F.type_list_append mt_append (pv 4) (pa_cons h pa_nil)) (de_tup (da_cons (de_call C ((ok__law_draw T).up (by decide)) rfl (by rfl) (da_cons (de_var (pv 0)) (da_cons (de_add C.b (de_var (pv 3)) de_int) da_nil))) (da_cons (de_call C ((ok__law_draw T).up (by decide)) rfl (by rfl) (da_cons (de_var (pv 0)) (da_cons (de_add C.b (de_op op_fdivN lift_fdiv (de_var (pv 3)) de_int) de_int) da_nil))) da_nil)))))) (dss_frz 4 (dss_one (ds_ret (de_add C.b (de_var (pv 4)) ((df_lst (da_cons (de_tup (da_cons de_int (da_cons de_int da_nil))) (da_cons (de_tup (da_cons de_int (da_cons (de_var (pv 3)) da_nil))) (da_cons (de_tup (da_cons (de_var (pv 3)) (da_cons de_int da_nil))) (da_cons (de_tup (da_cons de_int (da_cons (de_op op_pow lift_pow de_int de_int) da_nil))) da_nil))))).dat))))))))
theorem ok__law_near (T : Fc W mg) : CalD W P w mg base "_law_near" 4 2 (S__law_near W) := by
  obtain ⟨f, fd, F, hm, hb⟩ := T.f__law_near
  exact CalD.mk' F hm hb sc__law_near m__law_near (fun G cdv A outer s H E C => d__law_near T C) h__law_near
theorem d__law_is_right (T : Fc W mg) {G H : Hp} {E : XK} {f : Addr} {cdv : Value} {A : Around} {outer : List Env} {s : Shared} (C : DC W E 5 (cxOf (L2N.CX P w) P w W.K mg base N__law_is_right "_law_is_right" (defScope s__law_is_right) f cdv A outer s H E)) :
    DSs W G H E (cxOf (L2N.CX P w) P w W.K mg base N__law_is_right "_law_is_right" (defScope s__law_is_right) f cdv A outer s H E) (defBody s__law_is_right) (b__law_is_right W) :=
  dss_cons (ds_par (fun _ h => ps_par (by rfl) C.nd rfl rfl (by decide) rfl rfl h (by rfl)) (dm_d (de_call C ((ok__law_double T).up (by decide)) rfl (by rfl) (da_cons (de_var (pv 1)) da_nil)) (dm_d (de_sl3 C.b (de_var (pv 1)) do_none do_none (do_some (de_un un_neg lift_neg de_int))) dm_nil))) (dss_cons (ds_if (dt_not ((de_call C ((ok__law_is T).up (by decide)) rfl (by rfl) (da_cons ((df_lst (da_cons (de_call C ((ok_first_double T).up (by decide)) rfl (by rfl) (da_cons (de_var (pv 1)) da_nil)) (da_cons (de_cmp op_isN lift_isN (de_call C ((ok_first_double T).up (by decide)) rfl (by rfl) (da_cons (de_var (pv 3)) da_nil)) de_non (nomark _)) da_nil))).dat) (da_cons ((df_lst (da_cons (de_var (pv 2)) (da_cons (de_cmp op_isN lift_isN (de_var (pv 2)) de_non (nomark _)) da_nil))).dat) da_nil))).val)) (dss_one (ds_ret de_bl)) dss_nil) (dss_cons (ds_if (dt_not ((de_cb (fun _ h => pe_callB (cr_all C.calm) (by rfl) T.z_all bt_all h) lift_all (da_cons ((df_comp (own := [("thing", 4)]) C (blkOk_by (N := N__law_is_right) (sc := defScope s__law_is_right) (by decide +kernel)) (di_any C.b (de_call C ((ok__law_near T).up (by decide)) rfl (by rfl) (da_cons (de_var (pv 0)) (da_cons (de_var (pv 1)) da_nil)))) (by decide) (fun _ _ _ _ _ => dg_name (pg_name (i := 4) C.nd rfl (.inl rfl))) (fun _ _ _ _ _ C1 => dts_nil) (fun _ _ _ _ _ C1 => de_call C1 ((ok__law_is T).up (by decide)) rfl (by rfl) (da_cons (de_call C1 ((ok_is_double T).up (by decide)) rfl (by rfl) (da_cons (de_var (pv 1)) (da_cons (de_var (pv 4)) da_nil))) (da_cons (de_call C1 ((ok__law_is_double T).up (by decide)) rfl (by rfl) (da_cons (de_var (pv 1)) (da_cons (de_var (pv 4)) da_nil))) da_nil)))).dat) da_nil)).val)) (dss_one (ds_ret de_bl)) dss_nil) (dss_cons (ds_if (dt_cmp (op_neX C.b) lift_ne ((df_lst (da_cons ((df_cb (fun _ h => pe_callTy (cr_listB C.calm) (by rfl) T.z_list bt_list h) lift_listA (da_cons (de_call C ((ok_sum_sizes T).up (by decide)) rfl (by rfl) (da_cons (de_var (pv 1)) da_nil)) da_nil)).dat) (da_cons ((df_cb (fun _ h => pe_callTy (cr_listB C.calm) (by rfl) T.z_list bt_list h) lift_listA (da_cons (de_call C ((ok_sum_sizes T).up (by decide)) rfl (by rfl) (da_cons (de_var (pv 3)) da_nil)) da_nil)).dat) da_nil))).dat) (de_mul ((df_lst (da_cons (de_call C ((ok__law_sizes T).up (by decide)) rfl (by rfl) (da_cons (de_var (pv 1)) da_nil)) da_nil)).dat) de_int) (nomark _)) (dss_one (ds_ret de_bl)) dss_nil) (dss_cons (ds_set (i := 5) (fun _ h => ps_set (i := 5) C.nd rfl (.inl rfl) h) (de_call C ((ok__law_period T).up (by decide)) rfl (by rfl) (da_cons (de_var (pv 1)) da_nil))) (dss_cons (ds_if (dt_not ((de_call C ((ok__law_is T).up (by decide)) rfl (by rfl) (da_cons ((df_lst (da_cons (de_call C ((ok_least_sum_period T).up (by decide)) rfl (by rfl) (da_cons (de_var (pv 1)) da_nil)) (da_cons (de_cmp op_le lift_le (de_var (pv 5)) (de_cb (fun _ h => pe_callB cr_lenA (by rfl) T.z_len bt_len h) lift_len (da_cons (de_var (pv 1)) da_nil)) (nomark _)) da_nil))).dat) (da_cons ((df_lst (da_cons (de_var (pv 5)) (da_cons de_bl da_nil))).dat) da_nil))).val)) (dss_one (ds_ret de_bl)) dss_nil) (dss_cons (ds_par (fun _ h => ps_par (by rfl) C.nd rfl rfl (by decide) rfl rfl h (by rfl)) (dm_d (de_join C.b (de_str (s := []) rfl) (de_call C ((ok__law_shuffled T).up (by decide)) rfl (by rfl) (da_cons (de_var (pv 0)) (da_cons (de_var (pv 1)) da_nil)))) (dm_d (de_call C ((ok__law_word T).up (by decide)) rfl (by rfl) (da_cons (de_var (pv 0)) (da_cons (de_str (s := [97, 98]) rfl) (da_cons (de_cb (fun _ h => pe_callB cr_lenA (by rfl) T.z_len bt_len h) lift_len (da_cons (de_var (pv 1)) da_nil)) da_nil)))) dm_nil))) (dss_cons (ds_if (dt_not ((de_call C ((ok__law_is T).up (by decide)) rfl (by rfl) (da_cons ((df_lst (da_cons (de_call C ((ok_same_letters T).up (by decide)) rfl (by rfl) (da_cons (de_var (pv 1)) (da_cons (de_var (pv 6)) da_nil))) (da_cons (de_call C ((ok_same_letters T).up (by decide)) rfl (by rfl) (da_cons (de_var (pv 1)) (da_cons (de_var (pv 7)) da_nil))) da_nil))).dat) (da_cons ((df_lst (da_cons de_bl (da_cons (de_call C ((ok__law_are_same T).up (by decide)) rfl (by rfl) (da_cons (de_var (pv 1)) (da_cons (de_var (pv 7)) da_nil))) da_nil))).dat) da_nil))).val)) (dss_one (ds_ret de_bl)) dss_nil) (dss_cons (ds_set (i := 8) (fun _ h => ps_set (i := 8) C.nd rfl (.inl rfl) h) (de_call C ((ok__law_draw T).up (by decide)) rfl (by rfl) (da_cons (de_var (pv 0)) (da_cons (de_add C.b (de_cb (fun _ h => pe_callB cr_lenA (by rfl) T.z_len bt_len h) lift_len (da_cons (de_var (pv 1)) da_nil)) de_int) da_nil)))) (dss_cons (ds_set (i := 9) (fun _ h => ps_set (i := 9) C.nd rfl (.inl rfl) h) (de_slice C.b (de_var (pv 1)) (do_some (de_var (pv 8))) (do_some (de_add C.b (de_var (pv 8)) (de_call C ((ok__law_draw T).up (by decide)) rfl (by rfl) (da_cons (de_var (pv 0)) (da_cons (de_add C.b (de_cb (fun _ h => pe_callB cr_lenA (by rfl) T.z_len bt_len h) lift_len (da_cons (de_var (pv 1)) da_nil)) de_int) da_nil))))))) (dss_cons (ds_for C (di_any C.b ((df_lst (da_cons (de_call C ((ok__law_counts T).up (by decide)) rfl (by rfl) (da_cons (de_var (pv 9)) (da_cons de_int da_nil))) (da_cons (de_call C ((ok__law_counts T).up (by decide)) rfl (by rfl) (da_cons (de_var (pv 7)) (da_cons de_int da_nil))) (da_cons (de_call C ((ok__law_counts T).up (by decide)) rfl (by rfl) (da_cons (de_add C.b (de_var (pv 9)) (de_str (s := [99]) rfl)) (da_cons de_int da_nil))) (da_cons (de_tup (da_cons de_int da_nil)) (da_cons (de_tup (da_cons de_int (da_cons de_int da_nil))) da_nil)))))).dat)) (dg_name (pg_name (i := 10) C.nd rfl (.inl rfl))) (dss_one (ds_if (dt_not ((de_call C ((ok__law_is T).up (by decide)) rfl (by rfl) (da_cons (de_call C ((ok_counts_met T).up (by decide)) rfl (by rfl) (da_cons (de_var (pv 1)) (da_cons (de_var (pv 10)) da_nil))) (da_cons (de_call C ((ok__law_met T).up (by decide)) rfl (by rfl) (da_cons (de_var (pv 1)) (da_cons (de_var (pv 10)) da_nil))) da_nil))).val)) (dss_one (ds_ret de_bl)) dss_nil))) (dss_one (ds_ret de_bl))))))))))))
theorem ok__law_is_right (T : Fc W mg) : CalD W P w mg base "_law_is_right" 6 2 (S__law_is_right W) := by
  obtain ⟨f, fd, F, hm, hb⟩ := T.f__law_is_right
  exact CalD.mk' F hm hb sc__law_is_right m__law_is_right (fun G cdv A outer s H E C => d__law_is_right T C) h__law_is_right
theorem d__law_are_refused (T : Fc W mg) {c Pt : Addr} (TB : LamX.TabB base mg c Pt) (HT : (Pt, Str.ofString "_law_are_refused" ++ Str.ofString ".<locals>." ++ Str.ofString "<lambda>") ∈ W.T) (HU : ∀ p ∈ W.T, p.1 = Pt → p.2 = Str.ofString "_law_are_refused" ++ Str.ofString ".<locals>." ++ Str.ofString "<lambda>") {G H : Hp} {E : XK} {f : Addr} {A : Around} {outer : List Env} {s : Shared} (C : DC W E 7 (cxOf (L2N.CX P w) P w W.K mg base N__law_are_refused "_law_are_refused" (defScope s__law_are_refused) f (.ref c) A outer s H E)) :
    DSs W G H E (cxOf (L2N.CX P w) P w W.K mg base N__law_are_refused "_law_are_refused" (defScope s__law_are_refused) f (.ref c) A outer s H E) (defBody s__law_are_refused) (b__law_are_refused W) :=
  dss_cons (ds_set (i := 1) (fun _ h => ps_set (i := 1) C.nd rfl (.inr rfl) h) (de_call C ((ok__law_any T).up (by decide)) rfl (by rfl) (da_cons (de_var (pv 0)) (da_cons ((df_lst (da_cons de_non (da_cons de_int (da_cons (de_str (s := [65]) rfl) (da_cons (de_str (s := [97, 32, 98]) rfl) (da_cons ((df_lst (da_cons (de_str (s := [97]) rfl) da_nil)).dat) (da_cons (de_tup (da_cons (de_str (s := [97]) rfl) da_nil)) (da_cons de_bl (da_cons (de_str (s := [97, 49]) rfl) (da_cons de_dict0 (da_cons (de_call C ((ok__law_deep T).up (by decide)) rfl (by rfl) (da_cons (de_var (pv 0)) da_nil)) da_nil))))))))))).dat) da_nil)))) (dss_cons (ds_set (i := 2) (fun _ h => ps_set (i := 2) C.nd rfl (.inr rfl) h) ((df_lst (da_cons (de_tup da_nil) (da_cons (de_tup (da_cons de_int da_nil)) (da_cons (de_tup (da_cons (de_un un_neg lift_neg de_int) da_nil)) (da_cons (de_tup (da_cons de_bl da_nil)) (da_cons (de_tup (da_cons de_non da_nil)) (da_cons ((df_lst (da_cons de_int da_nil)).dat) (da_cons de_non (da_cons (de_mulT C.b (de_tup (da_cons de_int da_nil)) de_int) (da_cons (de_str (s := [49]) rfl) (da_cons de_dict0 (da_cons (de_tup (da_cons (de_tup (da_cons de_int da_nil)) da_nil)) (da_cons de_int da_nil))))))))))))).dat)) (dss_cons (ds_asgF (fun _ h => ps_set (i := 3) C.nd rfl (.inl rfl) h) (df_lst da_nil)) (dss_cons (ds_for C (di_any C.b (de_tup (da_cons (de_fn (nm := "first_double") (by rfl) T.fv_first_double) (da_cons (de_fn (nm := "sum_sizes") (by rfl) T.fv_sum_sizes) (da_cons (de_fn (nm := "least_sum_period") (by rfl) T.fv_least_sum_period) da_nil))))) (dg_name (pg_name (i := 4) C.nd rfl (.inr rfl))) (dss_one (ds_append (fun _ h => pe_bm PySem.F.plainAttrs_list PySem.F.slot_list_append PySem.F.type_list_append mt_append (pv 3) (pa_cons h pa_nil)) (de_caught C T.ck T.lc TB (by rfl) rfl HT HU (LamX.lamS_by (sc := defScope s__law_are_refused) (by decide +kernel)) rfl (fun _ _ _ _ _ => rfl) (mo_callV (fs := [("first_double", S_first_double), ("sum_sizes", S_sum_sizes), ("least_sum_period", S_least_sum_period)]) (fun p hp => by simp only [List.mem_cons, List.not_mem_nil, or_false] at hp; rcases hp with rfl | rfl | rfl; exact m_first_double; exact m_sum_sizes; exact m_least_sum_period) (mo_cons mo_var mo_nil)) (mx_callV (fs := [("first_double", S_first_double), ("sum_sizes", S_sum_sizes), ("least_sum_period", S_least_sum_period)]) (fun p hp => by simp only [List.mem_cons, List.not_mem_nil, or_false] at hp; rcases hp with rfl | rfl | rfl; exact m_first_double; exact m_sum_sizes; exact m_least_sum_period) (mo_cons mo_var mo_nil) (mx_cons mo_var mx_var mx_nil)) (fun _ _ _ _ _ _ _ _ _ CL => de_callV (n := 1) (fs := [("first_double", S_first_double), ("sum_sizes", S_sum_sizes), ("least_sum_period", S_least_sum_period)]) (i := 4) CL (fun p hp => by simp only [List.mem_cons, List.not_mem_nil, or_false] at hp; rcases hp with rfl | rfl | rfl; exact ⟨((ok_first_double T).up (by decide)), T.fv_first_double⟩; exact ⟨((ok_sum_sizes T).up (by decide)), T.fv_sum_sizes⟩; exact ⟨((ok_least_sum_period T).up (by decide)), T.fv_least_sum_period⟩) rfl rfl (by first | exact Or.inl rfl | exact Or.inr (Or.inl rfl) | exact Or.inr (Or.inr rfl)) (da_cons (de_var (pv 1)) da_nil)))))) (dss_cons (ds_append (fun _ h => pe_bm PySem.F.plainAttrs_list PySem.F.slot_list_append PySem.F.type_list_append mt_append (pv 3) (pa_cons h pa_nil)) (de_caught C T.ck T.lc TB (by rfl) rfl HT HU (LamX.lamS_by (sc := defScope s__law_are_refused) (by decide +kernel)) rfl (fun _ _ _ _ _ => rfl) (mo_call m_is_double (mo_cons mo_var (mo_cons mo_c mo_nil))) (mx_call m_is_double (mo_cons mo_var (mo_cons mo_c mo_nil)) (mx_cons mo_var mx_var (mx_cons mo_c mx_c mx_nil))) (fun _ _ _ _ _ _ _ _ _ CL => de_call CL ((ok_is_double T).up (by decide)) rfl (by rfl) (da_cons (de_var (pv 1)) (da_cons de_non da_nil))))) (dss_cons (ds_append (fun _ h => pe_bm PySem.F.plainAttrs_list PySem.F.slot_list_append PySem.F.type_list_append mt_append (pv 3) (pa_cons h pa_nil)) (de_caught C T.ck T.lc TB (by rfl) rfl HT HU (LamX.lamS_by (sc := defScope s__law_are_refused) (by decide +kernel)) rfl (fun _ _ _ _ _ => rfl) (mo_call m_same_letters (mo_cons mo_c (mo_cons mo_var mo_nil))) (mx_call m_same_letters (mo_cons mo_c (mo_cons mo_var mo_nil)) (mx_cons mo_c mx_c (mx_cons mo_var mx_var mx_nil))) (fun _ _ _ _ _ _ _ _ _ CL => de_call CL ((ok_same_letters T).up (by decide)) rfl (by rfl) (da_cons (de_str (s := [97]) rfl) (da_cons (de_var (pv 1)) da_nil))))) (dss_cons (ds_append (fun _ h => pe_bm PySem.F.plainAttrs_list PySem.F.slot_list_append PySem.F.type_list_append mt_append (pv 3) (pa_cons h pa_nil)) (de_caught C T.ck T.lc TB (by rfl) rfl HT HU (LamX.lamS_by (sc := defScope s__law_are_refused) (by decide +kernel)) rfl (fun _ _ _ _ _ => rfl) (mo_call m_same_letters (mo_cons mo_var (mo_cons mo_c mo_nil))) (mx_call m_same_letters (mo_cons mo_var (mo_cons mo_c mo_nil)) (mx_cons mo_var mx_var (mx_cons mo_c mx_c mx_nil))) (fun _ _ _ _ _ _ _ _ _ CL => de_call CL ((ok_same_letters T).up (by decide)) rfl (by rfl) (da_cons (de_var (pv 1)) (da_cons (de_str (s := [97]) rfl) da_nil))))) (dss_cons (ds_append (fun _ h => pe_bm PySem.F.plainAttrs_list PySem.F.slot_list_append PySem.F.type_list_append mt_append (pv 3) (pa_cons h pa_nil)) (de_caught C T.ck T.lc TB (by rfl) rfl HT HU (LamX.lamS_by (sc := defScope s__law_are_refused) (by decide +kernel)) rfl (fun _ _ _ _ _ => rfl) (mo_call m_counts_met (mo_cons mo_var (mo_cons (mo_tup (mo_cons mo_c mo_nil)) mo_nil))) (mx_call m_counts_met (mo_cons mo_var (mo_cons (mo_tup (mo_cons mo_c mo_nil)) mo_nil)) (mx_cons mo_var mx_var (mx_cons (mo_tup (mo_cons mo_c mo_nil)) (mx_tup (mx_cons mo_c mx_c mx_nil)) mx_nil))) (fun _ _ _ _ _ _ _ _ _ CL => de_call CL ((ok_counts_met T).up (by decide)) rfl (by rfl) (da_cons (de_var (pv 1)) (da_cons (de_tup (da_cons de_int da_nil)) da_nil))))) (dss_cons (ds_append (fun _ h => pe_bm PySem.F.plainAttrs_list PySem.F.slot_list_append PySem.F.type_list_append mt_append (pv 3) (pa_cons h pa_nil)) (de_caught C T.ck T.lc TB (by rfl) rfl HT HU (LamX.lamS_by (sc := defScope s__law_are_refused) (by decide +kernel)) rfl (fun _ _ _ _ _ => rfl) (mo_call m_counts_met (mo_cons mo_c (mo_cons (mo_call m__law_any (mo_cons mo_var (mo_cons mo_var mo_nil))) mo_nil))) (mx_call m_counts_met (mo_cons mo_c (mo_cons (mo_call m__law_any (mo_cons mo_var (mo_cons mo_var mo_nil))) mo_nil)) (mx_cons mo_c mx_c (mx_cons (mo_call m__law_any (mo_cons mo_var (mo_cons mo_var mo_nil))) (mx_call m__law_any (mo_cons mo_var (mo_cons mo_var mo_nil)) (mx_cons mo_var mx_var (mx_cons mo_var mx_var mx_nil))) mx_nil))) (fun _ _ _ _ _ _ _ _ _ CL => de_call CL ((ok_counts_met T).up (by decide)) rfl (by rfl) (da_cons (de_str (s := [97, 98]) rfl) (da_cons (de_call CL ((ok__law_any T).up (by decide)) rfl (by rfl) (da_cons (de_var (pv 0)) (da_cons (de_var (pv 2)) da_nil))) da_nil))))) (dss_cons (ds_append (fun _ h => pe_bm PySem.F.plainAttrs_list PySem.F.slot_list_append PySem.F.type_list_append mt_append (pv 3) (pa_cons h pa_nil)) (de_caught C T.ck T.lc TB (by rfl) rfl HT HU (LamX.lamS_by (sc := defScope s__law_are_refused) (by decide +kernel)) rfl (fun _ _ _ _ _ => rfl) (mo_call m_least_sum_period (mo_cons (mo_op2 mulD_mono mo_c mo_c) mo_nil)) (mx_call m_least_sum_period (mo_cons (mo_op2 mulD_mono mo_c mo_c) mo_nil) (mx_cons (mo_op2 mulD_mono mo_c mo_c) (mx_op2 mo_c mx_c mx_c) mx_nil)) (fun _ _ _ _ _ _ _ _ _ CL => de_call CL ((ok_least_sum_period T).up (by decide)) rfl (by rfl) (da_cons (de_mul (de_str (s := [97, 98]) rfl) de_int) da_nil)))) (dss_one (ds_ret (DE.bor 3 (de_cmp (op_eqX C.b) lift_eq (de_var (pv 3)) (de_add C.b (de_mul ((df_lst (da_cons (de_str (s := [119, 111, 114, 100]) rfl) da_nil)).dat) de_int) ((df_lst (da_cons (de_str (s := [110, 117, 109, 98, 101, 114]) rfl) (da_cons (de_tup (da_cons (de_str (s := [109, 97, 110, 121]) rfl) (da_cons de_int da_nil))) da_nil))).dat)) (nomark _))))))))))))))
theorem ok__law_are_refused (T : Fc W mg) (L : ∃ (f c Pt : Addr) (oc : Value) (od : Option Addr) (osl : Array (Option Value)) (kV doc pm ct : Value) (an : Option Addr), mg "_law_are_refused" = some (.ref f) ∧ PySem.W.keepIn W.K (.ref f) = true ∧ W.K.lookup f = some ⟨oc, od, .func (PySem.W.fnOf "_law_are_refused" "_law_are_refused" (defArgs s__law_are_refused) (defBody s__law_are_refused) (defScope s__law_are_refused) .none kV doc pm an (.ref c) ct), osl⟩ ∧ PySem.W.codeIn W.K (.ref c) "_law_are_refused" = true ∧ LamX.TabB base mg c Pt ∧ (Pt, Str.ofString "_law_are_refused" ++ Str.ofString ".<locals>." ++ Str.ofString "<lambda>") ∈ W.T ∧ (∀ p ∈ W.T, p.1 = Pt → p.2 = Str.ofString "_law_are_refused" ++ Str.ofString ".<locals>." ++ Str.ofString "<lambda>")) : CalD W P w mg base "_law_are_refused" 8 1 (S__law_are_refused W) := by
  obtain ⟨f, c, Pt, oc, od, osl, kV, doc, pm, ct, an, hm, hk, lk, hcd, TB, HT, HU⟩ := L
  exact CalD.mkC lk hcd hk hm (.all fun us hl => match us, hl with | [_], _ => rfl) sc__law_are_refused m__law_are_refused (fun G A outer s H E C => d__law_are_refused T TB HT HU C) h__law_are_refused
def LamOk (W : Wd) (P : Program) (w : World) (mg : Str → Option Value) (base : Heap) : Prop := CalD W P w mg base "_law_are_refused" 8 1 (S__law_are_refused W)
theorem d_law (T : Fc W mg) (T2 : LamOk W P w mg base) {G H H1 : Hp} {E : XK} {f : Addr} {cdv : Value} {A : Around} {outer : List Env} {s : Shared} (C : DC W E 8 (cxOf (L2N.CX P w) P w W.K mg base N_law "law" (defScope s_law) f cdv A outer s H E)) :
    DSs W G H1 E (cxOf (L2N.CX P w) P w W.K mg base N_law "law" (defScope s_law) f cdv A outer s H E) (defBody s_law).tail (bt_law_1 W) :=
  dss_cons (ds_set (i := 2) (fun _ h => ps_set (i := 2) C.nd rfl (.inl rfl) h) ((df_lst (da_cons (de_call C ((ok_first_double T).up (by decide)) rfl (by rfl) (da_cons (de_str (s := [97, 98, 99, 97, 98]) rfl) da_nil)) (da_cons (de_call C ((ok_first_double T).up (by decide)) rfl (by rfl) (da_cons (de_str (s := [97, 98, 98, 97]) rfl) da_nil)) (da_cons (de_call C ((ok_least_sum_period T).up (by decide)) rfl (by rfl) (da_cons (de_str (s := [97, 98, 98, 97, 97, 98]) rfl) da_nil)) (da_cons (de_call C ((ok_least_sum_period T).up (by decide)) rfl (by rfl) (da_cons (de_str (s := []) rfl) da_nil)) da_nil))))).dat)) (dss_cons (ds_set (i := 2) (fun _ h => ps_set (i := 2) C.nd rfl (.inl rfl) h) (de_add C.b (de_var (pv 2)) ((df_lst (da_cons (de_call C ((ok_counts_met T).up (by decide)) rfl (by rfl) (da_cons (de_str (s := [97, 97, 98, 98]) rfl) (da_cons (de_tup (da_cons de_int (da_cons de_int da_nil))) da_nil))) (da_cons (de_call C ((ok_first_double T).up (by decide)) rfl (by rfl) (da_cons (de_str (s := [97, 98, 99, 98, 97, 99]) rfl) da_nil)) da_nil))).dat))) (dss_cons (ds_if (dt_not ((de_call C ((ok__law_is T).up (by decide)) rfl (by rfl) (da_cons (de_var (pv 2)) (da_cons ((df_lst (da_cons de_non (da_cons (de_tup (da_cons de_int (da_cons de_int da_nil))) (da_cons de_int (da_cons de_int (da_cons de_int (da_cons (de_tup (da_cons de_int (da_cons de_int da_nil))) da_nil))))))).dat) da_nil))).val)) (dss_one (ds_ret de_bl)) dss_nil) (dss_cons (ds_for C (di_range1 (by rfl) T.z_range de_int) (dg_name (pg_name (i := 3) C.nd rfl (.inl rfl))) (dss_cons (ds_set (i := 4) (fun _ h => ps_set (i := 4) C.nd rfl (.inl rfl) h) ((df_lst (da_cons (de_call C ((ok__law_made T).up (by decide)) rfl (by rfl) (da_cons (de_var (pv 1)) da_nil)) (da_cons (de_call C ((ok__law_made T).up (by decide)) rfl (by rfl) (da_cons (de_var (pv 1)) da_nil)) (da_cons (de_call C ((ok__law_word T).up (by decide)) rfl (by rfl) (da_cons (de_var (pv 1)) (da_cons (de_str (s := [97, 98, 99]) rfl) (da_cons de_int da_nil)))) (da_cons (de_call C ((ok__law_word T).up (by decide)) rfl (by rfl) (da_cons (de_var (pv 1)) (da_cons (de_str (s := [97, 98]) rfl) (da_cons de_int da_nil)))) da_nil))))).dat)) (dss_cons (ds_set (i := 5) (fun _ h => ps_set (i := 5) C.nd rfl (.inl rfl) h) (de_call C ((ok__law_any T).up (by decide)) rfl (by rfl) (da_cons (de_var (pv 1)) (da_cons (de_var (pv 4)) da_nil)))) (dss_one (ds_if ((dw_or (dt_not ((de_call C ((ok__law_is_right T).up (by decide)) rfl (by rfl) (da_cons (de_var (pv 1)) (da_cons (de_var (pv 5)) da_nil))).val)) (dw_one2 (dt_not ((de_call C (T2.up (by decide)) rfl (by rfl) (da_cons (de_var (pv 1)) da_nil)).val)))).t) (dss_one (ds_ret de_bl)) dss_nil))))) (dss_one (ds_ret de_bl)))))
end
end LK
/-! the law, and what the head tells -/
namespace DL
open PySem PySem.Spec PyProof.Rows L2
def excB (K : PySem.W.Frag) (C : Addr) : Bool := PySem.W.excIn K C [.type "ValueError", .type "Exception", .type "BaseException", .type "object"] "ValueError.__new__" && PySem.W.keepIn K (.ref C) && decide (PySem.W.subIn K (.ref C) (.type "BaseException") = some true) && decide (PySem.W.typeIn K (.ref C) = some (.type "type"))
def exc2B (K : PySem.W.Frag) (C : Addr) : Bool := PySem.W.keepIn K (.ref C) && decide (PySem.W.subIn K (.ref C) (.type "BaseException") = some true) && decide (PySem.W.typeIn K (.ref C) = some (.type "type"))
theorem exc_of {W : Wd} {mg : Str → Option Value} {x : Str} {nm : String} (g : mg x = some (.ref (W.cls nm))) (h : excB W.K (W.cls nm) = true) : ExC W mg x nm := by
  unfold excB at h
  simp only [Bool.and_eq_true, decide_eq_true_eq] at h
  exact ⟨g, h.1.1.1, h.1.1.2, h.1.2, h.2⟩
def distB : List Addr → Bool
  | [] => true
  | a :: l => l.all (fun b => !decide (a = b)) && distB l
def clsOf : List (String × Addr) → String → Addr
  | [], _ => (0 : Nat)
  | (n, a) :: l, s => if s = n then a else clsOf l s
end DL

namespace LK
open PySem PySem.Spec PyProof.Rows L2 DL LamX
abbrev s_init_TooMany : Stmt := match topS 11 with
  | .ClassDef _ _ _ body _ _ _ _ _ _ _ => body.getD 0 (.Pass ⟨0, 0, 0, 0⟩)
  | _ => .Pass ⟨0, 0, 0, 0⟩
theorem sc_init_TooMany : FnScope ["self", "most"] ["self", "most"] (defScope s_init_TooMany) := ⟨rfl, rfl, rfl, by decide +kernel, rfl, by decide +kernel, by decide +kernel⟩
section
variable {W : Wd} {P : Program} {w : World} {mg : Str → Option Value} {base : Heap}
instance {w : List Nat} {e h : Nat} : Decidable (at2 w e h) := by unfold at2; infer_instance
theorem FD_no {w : List Nat} {r : D} (c : ∀ e, e < w.length + 1 → ∀ h, h < w.length + 1 → at2 w e h → ¬ hit w e h) (hr : FD w r) : r = .non :=
  FD_uniq hr (.inl ⟨rfl, fun e h a => c e (by have := a.2.1; omega) h (by have := a.2.2.2; have := a.2.1; omega) a⟩)
theorem FD_yes {w : List Nat} {r : D} {e h : Nat} (a : at2 w e h) (b : hit w e h) (c : ∀ e', e' < w.length + 1 → ∀ h', h' < w.length + 1 → at2 w e' h' → (e' < e ∨ (e' = e ∧ h' < h)) → ¬ hit w e' h') (hr : FD w r) : r = .tup [.int ((e - 2 * h : Nat) : Int), .int (h : Int)] :=
  FD_uniq hr (.inr ⟨e, h, a, b, fun e' h' a' => c e' (by have := a'.2.1; omega) h' (by have := a'.2.2.2; have := a'.2.1; omega) a', rfl⟩)
theorem lw_w1 : wordD (.str [97, 98, 99, 97, 98]) = true := by decide +kernel
theorem lw_w2 : wordD (.str [97, 98, 98, 97]) = true := by decide +kernel
theorem lw_w3 : wordD (.str [97, 98, 98, 97, 97, 98]) = true := by decide +kernel
theorem lw_w4 : wordD (.str []) = true := by decide +kernel
theorem lw_w5 : wordD (.str [97, 97, 98, 98]) = true := by decide +kernel
theorem lw_w6 : wordD (.str [97, 98, 99, 98, 97, 99]) = true := by decide +kernel
theorem lw_1 {r : D} (h : FD [97, 98, 99, 97, 98] r) : r = .non := FD_no (by decide +kernel) h
theorem lw_2 {r : D} (h : FD [97, 98, 98, 97] r) : r = .tup [.int 1, .int 1] := FD_yes (e := 3) (h := 1) (by decide +kernel) (by decide +kernel) (by decide +kernel) h
theorem lw_6 {r : D} (h : FD [97, 98, 99, 98, 97, 99] r) : r = .tup [.int 0, .int 3] := FD_yes (e := 6) (h := 3) (by decide +kernel) (by decide +kernel) (by decide +kernel) h
theorem lw_3 {p : Nat} (h : PR [97, 98, 98, 97, 97, 98] p) : p = 2 := by
  refine PR_uniq h (.inr ⟨by decide, by decide, ⟨fun j hj => ?_, fun c => ?_⟩, fun s a b => ?_⟩)
  · have hj : j * 2 + 2 ≤ 6 := hj
    rcases (by omega : j = 0 ∨ j = 1 ∨ j = 2) with rfl | rfl | rfl <;> decide +kernel
  · have : rest [97, 98, 98, 97, 97, 98] 2 = [] := by decide +kernel
    rw [this]
    exact Nat.zero_le _
  · have : s = 1 := by omega
    subst this
    intro z
    have := z.1 1 (by decide)
    exact absurd this (by decide +kernel)
theorem lw_4 {p : Nat} (h : PR [] p) : p = 0 := PR_uniq h (.inl ⟨rfl, fun s a b => by have : s ≤ 0 := b; omega⟩)
theorem lw_5 {r : D} (h : CM [97, 97, 98, 98] [1, 1] r) : r = .int 1 := CM_uniq h (.inr ⟨1, by decide, by decide +kernel, fun j hj => by
  have : j = 0 := by omega
  subst this
  decide +kernel, rfl⟩)
theorem lw_fd {w : List Nat} {v : D} {Q : PD} {Y : PX} (hw : wordD (.str w) = true) (l : ¬ 300 < w.length) (e : ∀ r, FD w r → r = v) (q : Q v) : S_first_double [.str w] Q Y :=
  ⟨word_okv hw, itePos hw (iteNeg l fun r hr => by rw [e r hr]; exact q)⟩
theorem lw_pr {w : List Nat} {v : Nat} {Q : PD} {Y : PX} (hw : wordD (.str w) = true) (l : ¬ 300 < w.length) (e : ∀ r, PR w r → r = v) (q : Q (.int (v : Nat))) : S_least_sum_period [.str w] Q Y :=
  ⟨word_okv hw, itePos hw (iteNeg l fun r hr => by rw [e r hr]; exact q)⟩
theorem h_law : ∀ {K : PySem.W.Frag} {T : List (Addr × Str)} {cls : String → Addr} (hh : Addr × Addr) (Y : PX), bt_law_1 ⟨K, some hh, T, cls⟩ ((List.replicate N_law.length Sl.non).set 1 (.dt (hdD ⟨K, some hh, T, cls⟩))) (dRet fun d => d = .bl true) Y := by
  intro K T cls hh Y
  have hsz : sizeLine = 16777216 := rfl
  refine lw_fd lw_w1 (by decide) (fun r h => lw_1 h) ?_
  refine lw_fd lw_w2 (by decide) (fun r h => lw_2 h) ?_
  refine ⟨word_okv lw_w3, itePos lw_w3 (iteNeg (show ¬ 300 < 6 by decide) fun p hp => ?_)⟩
  rw [lw_3 hp]
  refine ⟨word_okv lw_w4, itePos lw_w4 (iteNeg (show ¬ 300 < 0 by decide) fun p2 hp2 => ?_)⟩
  rw [lw_4 hp2]
  refine ⟨le_d rfl, ?_⟩
  refine ⟨_, rfl, le_d rfl, word_okv lw_w5, vt (by decide) rfl, itePos lw_w5 (itePos (by decide +kernel) fun r hr => ?_)⟩
  rw [lw_5 hr]
  refine ⟨word_okv lw_w6, itePos lw_w6 (iteNeg (show ¬ 300 < 6 by decide) fun r6 hr6 => ?_)⟩
  rw [lw_6 hr6]
  refine ⟨le_d rfl, le_d rfl, ?_⟩
  refine ⟨_, rfl, le_d rfl, le_d rfl, le_d rfl, ?_⟩
  refine ⟨.lst [.non, .tup [.int 1, .int 1], .int 2, .int 0, .int 1, .tup [.int 0, .int 3]], rfl, ⟨le_d rfl, fun x hx => ?_⟩, ?_⟩
  · have h2 : ∀ a b : Int, okI 3 (.tup [.int a, .int b]) := fun a b => ⟨le_d rfl, fun y hy => by
      simp only [List.mem_cons, List.not_mem_nil, or_false] at hy
      rcases hy with rfl | rfl <;> trivial⟩
    simp only [List.mem_cons, List.not_mem_nil, or_false] at hx
    rcases hx with rfl | rfl | rfl | rfl | rfl | rfl
    · trivial
    · exact h2 1 1
    · trivial
    · trivial
    · trivial
    · exact h2 0 3
  refine ⟨_, rfl, iteNeg (by decide) ?_⟩
  refine ⟨5, rfl, by decide, by decide, ?_⟩
  rw [rangeD_z]
  refine for_run (f := fun n : Nat => D.int (n : Int)) (st := fun (z : D) (x : Sl × Sl × Sl) => [.non, .dt (hdD ⟨K, some hh, T, cls⟩), .dt z, x.1, x.2.1, x.2.2])
    (sb := fun z x c => [.non, .dt (hdD ⟨K, some hh, T, cls⟩), .dt z, .dt (.int (c : Nat)), x.2.1, x.2.2])
    (P := fun p r _ => True) _ (fun a x c Q q => q) (fun p c r z x D' hP e3 e4 k => ?_) (fun p w x hP => rfl) _ (.non, .non, .non) trivial
  refine ⟨_, rfl, rfl, fun w1 a1 => ?_⟩
  refine ⟨_, rfl, rfl, fun w2 a2 => ?_⟩
  refine ⟨_, rfl, rfl, by decide, by decide, by decide, by decide, fun w3 l3 c3 => ?_⟩
  refine ⟨_, rfl, rfl, by decide, by decide, by decide, by decide, fun w4 l4 c4 => ⟨le_d rfl, ?_⟩⟩
  have L3 : w3.length ≤ 20 := l3
  have L4 : w4.length ≤ 12 := l4
  have a3 : ab3 w3 40 := ⟨by omega, c3⟩
  have a4 : ab3 w4 40 := ⟨by omega, fun c hc => by have := c4 c hc; simp at this ⊢; omega⟩
  refine ⟨_, rfl, _, rfl, rfl, le_d rfl, le_d rfl, fun d hd => ?_⟩
  have hd' : ∃ w, d = .str w ∧ ab3 w 40 := by
    simp only [itsOf, List.mem_cons, List.not_mem_nil, or_false] at hd
    rcases hd with rfl | rfl | rfl | rfl
    · exact ⟨_, rfl, a1⟩
    · exact ⟨_, rfl, a2⟩
    · exact ⟨_, rfl, a3⟩
    · exact ⟨_, rfl, a4⟩
  obtain ⟨w, rfl, hw⟩ := hd'
  refine ⟨_, rfl, _, rfl, rfl, hw, _, rfl, iteNeg (by decide) ?_⟩
  refine ⟨_, rfl, rfl, _, rfl, iteNeg (by decide) ?_⟩
  exact (k z (.dt (.int (c : Nat)), _, _) trivial).1

theorem ok_law {K : PySem.W.Frag} {T : List (Addr × Str)} {cls : String → Addr} {f fH : Addr} {fd fdH : FuncData} (FC : ∀ hh, Fc ⟨K, some hh, T, cls⟩ mg) (L0 : (∃ (f c Pt : Addr) (oc : Value) (od : Option Addr) (osl : Array (Option Value)) (kV doc pm ct : Value) (an : Option Addr), mg "_law_are_refused" = some (.ref f) ∧ PySem.W.keepIn K (.ref f) = true ∧ K.lookup f = some ⟨oc, od, .func (PySem.W.fnOf "_law_are_refused" "_law_are_refused" (defArgs s__law_are_refused) (defBody s__law_are_refused) (defScope s__law_are_refused) .none kV doc pm an (.ref c) ct), osl⟩ ∧ PySem.W.codeIn K (.ref c) "_law_are_refused" = true ∧ LamX.TabB base mg c Pt ∧ (Pt, Str.ofString "_law_are_refused" ++ Str.ofString ".<locals>." ++ Str.ofString "<lambda>") ∈ T ∧ (∀ p ∈ T, p.1 = Pt → p.2 = Str.ofString "_law_are_refused" ++ Str.ofString ".<locals>." ++ Str.ofString "<lambda>")))
    (F : Fun K "law" "law" s_law f fd) (FH : FnOk P w K mg base (L2N.CX P w) 1 fH fdH ["script"] (spHand K T)) (gH : mg "_law_hand" = some (.ref fH)) (kH : PySem.W.keepIn K (.ref fH) = true) (bH : Binds K fdH ["script"] []) : FnOk P w K mg base (L2N.CX P w) 9 f fd ["script"] (spLaw K T) :=
  law_ok (k := 8) (cls := cls) (body := bt_law_1) F sc_law rfl (by decide)
    (fun cdv A outer s H E hr px => ps_set (i := 1) sc_law.nd rfl (.inl rfl) (pe_call FH (hr.mono (by decide)) (by rfl) gH kH bH .nil px (pa_cons (pv 0) pa_nil)))
    (fun hh G cdv A outer s H H1 E C => d_law (FC hh) (ok__law_are_refused (FC hh) L0) C) (fun hh Y => h_law hh Y)
end
theorem all_mk {l : PySem.W.OpenLaw} {w : World} {K : PySem.W.Frag} {h : Heap} {mg : Str → Option Value} {fa : Addr} (X : K.In h) (G : h.Ns mainGlobals mg) (hfa : mg "law" = some (.ref fa))
    {tk0 : Tok}
    {tk1 : Tok}
    {tk2 : Tok}
    {CW C0 C1 C2 : Addr}
    {nm2 qq2 : Str} {NN2 : Addr} {bs2 bm2 : List Value} {sn2 : List Str} {sub2 : List Value} {ab2 : Bool} {col2 : Option Bool} {dd2 : Option Addr} {m02 m12 m22 m32 m52 : Option Value}
    {fI2 : Addr} {ocI2 : Value} {odI2 anI2 : Option Addr} {slI2 : Array (Option Value)} {kVI2 dcI2 pmI2 cdI2 ctI2 : Value}
    {f0 : Addr} {oc0 : Value} {od0 an0 : Option Addr} {sl0 : Array (Option Value)} {kV0 dc0 pm0 cd0 ct0 : Value}
    {f1 : Addr} {oc1 : Value} {od1 an1 : Option Addr} {sl1 : Array (Option Value)} {kV1 dc1 pm1 cd1 ct1 : Value}
    {f2 : Addr} {oc2 : Value} {od2 an2 : Option Addr} {sl2 : Array (Option Value)} {kV2 dc2 pm2 cd2 ct2 : Value}
    {f3 : Addr} {oc3 : Value} {od3 an3 : Option Addr} {sl3 : Array (Option Value)} {kV3 dc3 pm3 cd3 ct3 : Value}
    {f4 : Addr} {oc4 : Value} {od4 an4 : Option Addr} {sl4 : Array (Option Value)} {kV4 dc4 pm4 cd4 ct4 : Value}
    {f5 : Addr} {oc5 : Value} {od5 an5 : Option Addr} {sl5 : Array (Option Value)} {kV5 dc5 pm5 cd5 ct5 : Value}
    {f6 : Addr} {oc6 : Value} {od6 an6 : Option Addr} {sl6 : Array (Option Value)} {kV6 dc6 pm6 cd6 ct6 : Value}
    {f7 : Addr} {oc7 : Value} {od7 an7 : Option Addr} {sl7 : Array (Option Value)} {kV7 dc7 pm7 cd7 ct7 : Value}
    {f8 : Addr} {oc8 : Value} {od8 an8 : Option Addr} {sl8 : Array (Option Value)} {kV8 dc8 pm8 cd8 ct8 : Value}
    {f9 : Addr} {oc9 : Value} {od9 an9 : Option Addr} {sl9 : Array (Option Value)} {kV9 dc9 pm9 cd9 ct9 : Value}
    {f10 : Addr} {oc10 : Value} {od10 an10 : Option Addr} {sl10 : Array (Option Value)} {kV10 dc10 pm10 cd10 ct10 : Value}
    {f11 : Addr} {oc11 : Value} {od11 an11 : Option Addr} {sl11 : Array (Option Value)} {kV11 dc11 pm11 cd11 ct11 : Value}
    {f12 : Addr} {oc12 : Value} {od12 an12 : Option Addr} {sl12 : Array (Option Value)} {kV12 dc12 pm12 cd12 ct12 : Value}
    {f13 : Addr} {oc13 : Value} {od13 an13 : Option Addr} {sl13 : Array (Option Value)} {kV13 dc13 pm13 cd13 ct13 : Value}
    {f14 : Addr} {oc14 : Value} {od14 an14 : Option Addr} {sl14 : Array (Option Value)} {kV14 dc14 pm14 cd14 ct14 : Value}
    {f15 : Addr} {oc15 : Value} {od15 an15 : Option Addr} {sl15 : Array (Option Value)} {kV15 dc15 pm15 cd15 ct15 : Value}
    {f16 : Addr} {oc16 : Value} {od16 an16 : Option Addr} {sl16 : Array (Option Value)} {kV16 dc16 pm16 cd16 ct16 : Value}
    {f17 : Addr} {oc17 : Value} {od17 an17 : Option Addr} {sl17 : Array (Option Value)} {kV17 dc17 pm17 cd17 ct17 : Value}
    {f18 : Addr} {oc18 : Value} {od18 an18 : Option Addr} {sl18 : Array (Option Value)} {kV18 dc18 pm18 cd18 ct18 : Value}
    {f19 : Addr} {oc19 : Value} {od19 an19 : Option Addr} {sl19 : Array (Option Value)} {kV19 dc19 pm19 cd19 ct19 : Value}
    {f20 : Addr} {oc20 : Value} {od20 an20 : Option Addr} {sl20 : Array (Option Value)} {kV20 dc20 pm20 cd20 ct20 : Value}
    {f21 : Addr} {oc21 : Value} {od21 an21 : Option Addr} {sl21 : Array (Option Value)} {kV21 dc21 pm21 cd21 ct21 : Value}
    {f22 : Addr} {oc22 : Value} {od22 an22 : Option Addr} {sl22 : Array (Option Value)} {kV22 dc22 pm22 cd22 ct22 : Value}
    {f23 : Addr} {oc23 : Value} {od23 an23 : Option Addr} {sl23 : Array (Option Value)} {kV23 dc23 pm23 cd23 ct23 : Value}
    {f24 : Addr} {oc24 : Value} {od24 an24 : Option Addr} {sl24 : Array (Option Value)} {kV24 dc24 pm24 cd24 ct24 : Value}
    {f25 : Addr} {oc25 : Value} {od25 an25 : Option Addr} {sl25 : Array (Option Value)} {kV25 dc25 pm25 cd25 ct25 : Value}
    {f26 : Addr} {oc26 : Value} {od26 an26 : Option Addr} {sl26 : Array (Option Value)} {kV26 dc26 pm26 cd26 ct26 : Value}
    {f27 : Addr} {oc27 : Value} {od27 an27 : Option Addr} {sl27 : Array (Option Value)} {kV27 dc27 pm27 cd27 ct27 : Value}
    {f28 : Addr} {oc28 : Value} {od28 an28 : Option Addr} {sl28 : Array (Option Value)} {kV28 dc28 pm28 cd28 ct28 : Value}
    {f29 : Addr} {oc29 : Value} {od29 an29 : Option Addr} {sl29 : Array (Option Value)} {kV29 dc29 pm29 cd29 ct29 : Value}
    {f30 : Addr} {oc30 : Value} {od30 an30 : Option Addr} {sl30 : Array (Option Value)} {kV30 dc30 pm30 cd30 ct30 : Value}
    {f31 : Addr} {oc31 : Value} {od31 an31 : Option Addr} {sl31 : Array (Option Value)} {kV31 dc31 pm31 cd31 ct31 : Value}
    {f32 : Addr} {oc32 : Value} {od32 an32 : Option Addr} {sl32 : Array (Option Value)} {kV32 dc32 pm32 cd32 ct32 : Value}
    {f33 : Addr} {oc33 : Value} {od33 an33 : Option Addr} {sl33 : Array (Option Value)} {kV33 dc33 pm33 cd33 ct33 : Value}
    {f34 c34 P34 : Addr} {oc34 : Value} {od34 an34 : Option Addr} {sl34 : Array (Option Value)} {kV34 dc34 pm34 ct34 : Value}
    {f35 : Addr} {oc35 : Value} {od35 an35 : Option Addr} {sl35 : Array (Option Value)} {kV35 dc35 pm35 cd35 ct35 : Value}
    (z0 : PySem.W.nsIn K mainGlobals "all" = some none)
    (z1 : PySem.W.nsIn K mainGlobals "any" = some none)
    (z2 : PySem.W.nsIn K mainGlobals "dict" = some none)
    (z3 : PySem.W.nsIn K mainGlobals "isinstance" = some none)
    (z4 : PySem.W.nsIn K mainGlobals "len" = some none)
    (z5 : PySem.W.nsIn K mainGlobals "list" = some none)
    (z6 : PySem.W.nsIn K mainGlobals "range" = some none)
    (z7 : PySem.W.nsIn K mainGlobals "set" = some none)
    (z8 : PySem.W.nsIn K mainGlobals "sorted" = some none)
    (z9 : PySem.W.nsIn K mainGlobals "sum" = some none)
    (z10 : PySem.W.nsIn K mainGlobals "tuple" = some none)
    (z11 : PySem.W.nsIn K mainGlobals "zip" = some none)
    (z12 : PySem.W.nsIn K mainGlobals "bool" = some none)
    (z13 : PySem.W.nsIn K mainGlobals "int" = some none)
    (z14 : PySem.W.nsIn K mainGlobals "str" = some none)
    (z15 : PySem.W.nsIn K mainGlobals "abs" = some none)
    (z16 : PySem.W.nsIn K mainGlobals "ValueError" = some none)
    (g0 : PySem.W.nsIn K mainGlobals "LETTERS" = some (some (.str (zs [97, 98, 99, 100, 101, 102, 103, 104, 105, 106, 107, 108, 109, 110, 111, 112, 113, 114, 115, 116, 117, 118, 119, 120, 121, 122]) tk0)))
    (g1 : PySem.W.nsIn K mainGlobals "MOST_WORD" = some (some (.int 2000 tk1)))
    (g2 : PySem.W.nsIn K mainGlobals "MOST_LONG" = some (some (.int 300 tk2)))
    (aW : PySem.W.nsIn K mainGlobals "WordError" = some (some (.ref CW)))
    (aX0 : PySem.W.nsIn K mainGlobals "BadNumber" = some (some (.ref C0)))
    (aX1 : PySem.W.nsIn K mainGlobals "BadWord" = some (some (.ref C1)))
    (aX2 : PySem.W.nsIn K mainGlobals "TooMany" = some (some (.ref C2)))
    (xB : exsB K CW [C0, C1, C2] [C1, C0, C2] = true)
    (xD : distB [C0, C1, C2] = true)
    (xE : [C0, C1].all (excB K) = true)
    (xG2 : exc2B K C2 = true)
    (xF2 : xfB K C2 = true)
    (xL2 : K.lookup C2 = some (excClassObj nm2 qq2 C2 NN2 bs2 bm2 true sn2 sub2 ab2 col2 dd2 m02 m12 m22 m32 m52 "ValueError.__new__"))
    (xR2 : PySem.HandSPX.refsVE bm2 = true)
    (xS2 : PySem.W.findIn K (.ref C2) "__setattr__" = some (some (.builtin "object.__setattr__")))
    (xN2 : PySem.W.findIn K (.ref C2) "most" = some none)
    (iA2 : PySem.W.findIn K (.ref C2) "__init__" = some (some (.ref fI2)))
    (iT2 : PySem.W.typeIn K (.ref fI2) = some (.type "function"))
    (iL2 : K.lookup fI2 = some ⟨ocI2, odI2, .func (PySem.W.fnOf "__init__" "TooMany.__init__" (defArgs s_init_TooMany) (defBody s_init_TooMany) (defScope s_init_TooMany) .none kVI2 dcI2 pmI2 anI2 cdI2 ctI2), slI2⟩)
    (iC2 : PySem.W.codeIn K cdI2 "TooMany.__init__" = true)
    (iK2 : PySem.W.keepIn K (.ref fI2) = true)
    (a0 : PySem.W.nsIn K mainGlobals "is_integer" = some (some (.ref f0)))
    (l0 : K.lookup f0 = some ⟨oc0, od0, .func (PySem.W.fnOf "is_integer" "is_integer" (defArgs s_is_integer) (defBody s_is_integer) (defScope s_is_integer) .none kV0 dc0 pm0 an0 cd0 ct0), sl0⟩)
    (c0q : PySem.W.codeIn K cd0 "is_integer" = true)
    (k0 : PySem.W.keepIn K (.ref f0) = true)
    (a1 : PySem.W.nsIn K mainGlobals "is_within" = some (some (.ref f1)))
    (l1 : K.lookup f1 = some ⟨oc1, od1, .func (PySem.W.fnOf "is_within" "is_within" (defArgs s_is_within) (defBody s_is_within) (defScope s_is_within) .none kV1 dc1 pm1 an1 cd1 ct1), sl1⟩)
    (c1q : PySem.W.codeIn K cd1 "is_within" = true)
    (k1 : PySem.W.keepIn K (.ref f1) = true)
    (a2 : PySem.W.nsIn K mainGlobals "is_tuple_of" = some (some (.ref f2)))
    (l2 : K.lookup f2 = some ⟨oc2, od2, .func (PySem.W.fnOf "is_tuple_of" "is_tuple_of" (defArgs s_is_tuple_of) (defBody s_is_tuple_of) (defScope s_is_tuple_of) .none kV2 dc2 pm2 an2 cd2 ct2), sl2⟩)
    (c2q : PySem.W.codeIn K cd2 "is_tuple_of" = true)
    (k2 : PySem.W.keepIn K (.ref f2) = true)
    (a3 : PySem.W.nsIn K mainGlobals "is_text" = some (some (.ref f3)))
    (l3 : K.lookup f3 = some ⟨oc3, od3, .func (PySem.W.fnOf "is_text" "is_text" (defArgs s_is_text) (defBody s_is_text) (defScope s_is_text) .none kV3 dc3 pm3 an3 cd3 ct3), sl3⟩)
    (c3q : PySem.W.codeIn K cd3 "is_text" = true)
    (k3 : PySem.W.keepIn K (.ref f3) = true)
    (a4 : PySem.W.nsIn K mainGlobals "is_word" = some (some (.ref f4)))
    (l4 : K.lookup f4 = some ⟨oc4, od4, .func (PySem.W.fnOf "is_word" "is_word" (defArgs s_is_word) (defBody s_is_word) (defScope s_is_word) .none kV4 dc4 pm4 an4 cd4 ct4), sl4⟩)
    (c4q : PySem.W.codeIn K cd4 "is_word" = true)
    (k4 : PySem.W.keepIn K (.ref f4) = true)
    (a5 : PySem.W.nsIn K mainGlobals "check_word" = some (some (.ref f5)))
    (l5 : K.lookup f5 = some ⟨oc5, od5, .func (PySem.W.fnOf "check_word" "check_word" (defArgs s_check_word) (defBody s_check_word) (defScope s_check_word) .none kV5 dc5 pm5 an5 cd5 ct5), sl5⟩)
    (c5q : PySem.W.codeIn K cd5 "check_word" = true)
    (k5 : PySem.W.keepIn K (.ref f5) = true)
    (a6 : PySem.W.nsIn K mainGlobals "check_words" = some (some (.ref f6)))
    (l6 : K.lookup f6 = some ⟨oc6, od6, .func (PySem.W.fnOf "check_words" "check_words" (defArgs s_check_words) (defBody s_check_words) (defScope s_check_words) .none kV6 dc6 pm6 an6 cd6 ct6), sl6⟩)
    (c6q : PySem.W.codeIn K cd6 "check_words" = true)
    (k6 : PySem.W.keepIn K (.ref f6) = true)
    (a7 : PySem.W.nsIn K mainGlobals "same_letters" = some (some (.ref f7)))
    (l7 : K.lookup f7 = some ⟨oc7, od7, .func (PySem.W.fnOf "same_letters" "same_letters" (defArgs s_same_letters) (defBody s_same_letters) (defScope s_same_letters) .none kV7 dc7 pm7 an7 cd7 ct7), sl7⟩)
    (c7q : PySem.W.codeIn K cd7 "same_letters" = true)
    (k7 : PySem.W.keepIn K (.ref f7) = true)
    (a8 : PySem.W.nsIn K mainGlobals "first_double" = some (some (.ref f8)))
    (l8 : K.lookup f8 = some ⟨oc8, od8, .func (PySem.W.fnOf "first_double" "first_double" (defArgs s_first_double) (defBody s_first_double) (defScope s_first_double) .none kV8 dc8 pm8 an8 cd8 ct8), sl8⟩)
    (c8q : PySem.W.codeIn K cd8 "first_double" = true)
    (k8 : PySem.W.keepIn K (.ref f8) = true)
    (a9 : PySem.W.nsIn K mainGlobals "is_double" = some (some (.ref f9)))
    (l9 : K.lookup f9 = some ⟨oc9, od9, .func (PySem.W.fnOf "is_double" "is_double" (defArgs s_is_double) (defBody s_is_double) (defScope s_is_double) .none kV9 dc9 pm9 an9 cd9 ct9), sl9⟩)
    (c9q : PySem.W.codeIn K cd9 "is_double" = true)
    (k9 : PySem.W.keepIn K (.ref f9) = true)
    (a10 : PySem.W.nsIn K mainGlobals "sum_sizes" = some (some (.ref f10)))
    (l10 : K.lookup f10 = some ⟨oc10, od10, .func (PySem.W.fnOf "sum_sizes" "sum_sizes" (defArgs s_sum_sizes) (defBody s_sum_sizes) (defScope s_sum_sizes) .none kV10 dc10 pm10 an10 cd10 ct10), sl10⟩)
    (c10q : PySem.W.codeIn K cd10 "sum_sizes" = true)
    (k10 : PySem.W.keepIn K (.ref f10) = true)
    (a11 : PySem.W.nsIn K mainGlobals "is_sum_period" = some (some (.ref f11)))
    (l11 : K.lookup f11 = some ⟨oc11, od11, .func (PySem.W.fnOf "is_sum_period" "is_sum_period" (defArgs s_is_sum_period) (defBody s_is_sum_period) (defScope s_is_sum_period) .none kV11 dc11 pm11 an11 cd11 ct11), sl11⟩)
    (c11q : PySem.W.codeIn K cd11 "is_sum_period" = true)
    (k11 : PySem.W.keepIn K (.ref f11) = true)
    (a12 : PySem.W.nsIn K mainGlobals "least_sum_period" = some (some (.ref f12)))
    (l12 : K.lookup f12 = some ⟨oc12, od12, .func (PySem.W.fnOf "least_sum_period" "least_sum_period" (defArgs s_least_sum_period) (defBody s_least_sum_period) (defScope s_least_sum_period) .none kV12 dc12 pm12 an12 cd12 ct12), sl12⟩)
    (c12q : PySem.W.codeIn K cd12 "least_sum_period" = true)
    (k12 : PySem.W.keepIn K (.ref f12) = true)
    (a13 : PySem.W.nsIn K mainGlobals "counts_met" = some (some (.ref f13)))
    (l13 : K.lookup f13 = some ⟨oc13, od13, .func (PySem.W.fnOf "counts_met" "counts_met" (defArgs s_counts_met) (defBody s_counts_met) (defScope s_counts_met) .none kV13 dc13 pm13 an13 cd13 ct13), sl13⟩)
    (c13q : PySem.W.codeIn K cd13 "counts_met" = true)
    (k13 : PySem.W.keepIn K (.ref f13) = true)
    (a14 : PySem.W.nsIn K mainGlobals "_law_any" = some (some (.ref f14)))
    (l14 : K.lookup f14 = some ⟨oc14, od14, .func (PySem.W.fnOf "_law_any" "_law_any" (defArgs s__law_any) (defBody s__law_any) (defScope s__law_any) .none kV14 dc14 pm14 an14 cd14 ct14), sl14⟩)
    (c14q : PySem.W.codeIn K cd14 "_law_any" = true)
    (k14 : PySem.W.keepIn K (.ref f14) = true)
    (a15 : PySem.W.nsIn K mainGlobals "_law_shuffled" = some (some (.ref f15)))
    (l15 : K.lookup f15 = some ⟨oc15, od15, .func (PySem.W.fnOf "_law_shuffled" "_law_shuffled" (defArgs s__law_shuffled) (defBody s__law_shuffled) (defScope s__law_shuffled) .none kV15 dc15 pm15 an15 cd15 ct15), sl15⟩)
    (c15q : PySem.W.codeIn K cd15 "_law_shuffled" = true)
    (k15 : PySem.W.keepIn K (.ref f15) = true)
    (a16 : PySem.W.nsIn K mainGlobals "_law_is" = some (some (.ref f16)))
    (l16 : K.lookup f16 = some ⟨oc16, od16, .func (PySem.W.fnOf "_law_is" "_law_is" (defArgs s__law_is) (defBody s__law_is) (defScope s__law_is) .none kV16 dc16 pm16 an16 cd16 ct16), sl16⟩)
    (c16q : PySem.W.codeIn K cd16 "_law_is" = true)
    (k16 : PySem.W.keepIn K (.ref f16) = true)
    (a17 : PySem.W.nsIn K mainGlobals "_law_is_int" = some (some (.ref f17)))
    (l17 : K.lookup f17 = some ⟨oc17, od17, .func (PySem.W.fnOf "_law_is_int" "_law_is_int" (defArgs s__law_is_int) (defBody s__law_is_int) (defScope s__law_is_int) .none kV17 dc17 pm17 an17 cd17 ct17), sl17⟩)
    (c17q : PySem.W.codeIn K cd17 "_law_is_int" = true)
    (k17 : PySem.W.keepIn K (.ref f17) = true)
    (a18 : PySem.W.nsIn K mainGlobals "_law_some" = some (some (.ref f18)))
    (l18 : K.lookup f18 = some ⟨oc18, od18, .func (PySem.W.fnOf "_law_some" "_law_some" (defArgs s__law_some) (defBody s__law_some) (defScope s__law_some) .none kV18 dc18 pm18 an18 cd18 ct18), sl18⟩)
    (c18q : PySem.W.codeIn K cd18 "_law_some" = true)
    (k18 : PySem.W.keepIn K (.ref f18) = true)
    (a19 : PySem.W.nsIn K mainGlobals "_law_word" = some (some (.ref f19)))
    (l19 : K.lookup f19 = some ⟨oc19, od19, .func (PySem.W.fnOf "_law_word" "_law_word" (defArgs s__law_word) (defBody s__law_word) (defScope s__law_word) .none kV19 dc19 pm19 an19 cd19 ct19), sl19⟩)
    (c19q : PySem.W.codeIn K cd19 "_law_word" = true)
    (k19 : PySem.W.keepIn K (.ref f19) = true)
    (a20 : PySem.W.nsIn K mainGlobals "_law_deep" = some (some (.ref f20)))
    (l20 : K.lookup f20 = some ⟨oc20, od20, .func (PySem.W.fnOf "_law_deep" "_law_deep" (defArgs s__law_deep) (defBody s__law_deep) (defScope s__law_deep) .none kV20 dc20 pm20 an20 cd20 ct20), sl20⟩)
    (c20q : PySem.W.codeIn K cd20 "_law_deep" = true)
    (k20 : PySem.W.keepIn K (.ref f20) = true)
    (a21 : PySem.W.nsIn K mainGlobals "_law_counts" = some (some (.ref f21)))
    (l21 : K.lookup f21 = some ⟨oc21, od21, .func (PySem.W.fnOf "_law_counts" "_law_counts" (defArgs s__law_counts) (defBody s__law_counts) (defScope s__law_counts) .none kV21 dc21 pm21 an21 cd21 ct21), sl21⟩)
    (c21q : PySem.W.codeIn K cd21 "_law_counts" = true)
    (k21 : PySem.W.keepIn K (.ref f21) = true)
    (a22 : PySem.W.nsIn K mainGlobals "_law_are_same" = some (some (.ref f22)))
    (l22 : K.lookup f22 = some ⟨oc22, od22, .func (PySem.W.fnOf "_law_are_same" "_law_are_same" (defArgs s__law_are_same) (defBody s__law_are_same) (defScope s__law_are_same) .none kV22 dc22 pm22 an22 cd22 ct22), sl22⟩)
    (c22q : PySem.W.codeIn K cd22 "_law_are_same" = true)
    (k22 : PySem.W.keepIn K (.ref f22) = true)
    (a23 : PySem.W.nsIn K mainGlobals "_law_double" = some (some (.ref f23)))
    (l23 : K.lookup f23 = some ⟨oc23, od23, .func (PySem.W.fnOf "_law_double" "_law_double" (defArgs s__law_double) (defBody s__law_double) (defScope s__law_double) .none kV23 dc23 pm23 an23 cd23 ct23), sl23⟩)
    (c23q : PySem.W.codeIn K cd23 "_law_double" = true)
    (k23 : PySem.W.keepIn K (.ref f23) = true)
    (a24 : PySem.W.nsIn K mainGlobals "_law_is_double" = some (some (.ref f24)))
    (l24 : K.lookup f24 = some ⟨oc24, od24, .func (PySem.W.fnOf "_law_is_double" "_law_is_double" (defArgs s__law_is_double) (defBody s__law_is_double) (defScope s__law_is_double) .none kV24 dc24 pm24 an24 cd24 ct24), sl24⟩)
    (c24q : PySem.W.codeIn K cd24 "_law_is_double" = true)
    (k24 : PySem.W.keepIn K (.ref f24) = true)
    (a25 : PySem.W.nsIn K mainGlobals "_law_sizes" = some (some (.ref f25)))
    (l25 : K.lookup f25 = some ⟨oc25, od25, .func (PySem.W.fnOf "_law_sizes" "_law_sizes" (defArgs s__law_sizes) (defBody s__law_sizes) (defScope s__law_sizes) .none kV25 dc25 pm25 an25 cd25 ct25), sl25⟩)
    (c25q : PySem.W.codeIn K cd25 "_law_sizes" = true)
    (k25 : PySem.W.keepIn K (.ref f25) = true)
    (a26 : PySem.W.nsIn K mainGlobals "_law_period" = some (some (.ref f26)))
    (l26 : K.lookup f26 = some ⟨oc26, od26, .func (PySem.W.fnOf "_law_period" "_law_period" (defArgs s__law_period) (defBody s__law_period) (defScope s__law_period) .none kV26 dc26 pm26 an26 cd26 ct26), sl26⟩)
    (c26q : PySem.W.codeIn K cd26 "_law_period" = true)
    (k26 : PySem.W.keepIn K (.ref f26) = true)
    (a27 : PySem.W.nsIn K mainGlobals "_law_met" = some (some (.ref f27)))
    (l27 : K.lookup f27 = some ⟨oc27, od27, .func (PySem.W.fnOf "_law_met" "_law_met" (defArgs s__law_met) (defBody s__law_met) (defScope s__law_met) .none kV27 dc27 pm27 an27 cd27 ct27), sl27⟩)
    (c27q : PySem.W.codeIn K cd27 "_law_met" = true)
    (k27 : PySem.W.keepIn K (.ref f27) = true)
    (a28 : PySem.W.nsIn K mainGlobals "_law_made" = some (some (.ref f28)))
    (l28 : K.lookup f28 = some ⟨oc28, od28, .func (PySem.W.fnOf "_law_made" "_law_made" (defArgs s__law_made) (defBody s__law_made) (defScope s__law_made) .none kV28 dc28 pm28 an28 cd28 ct28), sl28⟩)
    (c28q : PySem.W.codeIn K cd28 "_law_made" = true)
    (k28 : PySem.W.keepIn K (.ref f28) = true)
    (a29 : PySem.W.nsIn K mainGlobals "_law_near" = some (some (.ref f29)))
    (l29 : K.lookup f29 = some ⟨oc29, od29, .func (PySem.W.fnOf "_law_near" "_law_near" (defArgs s__law_near) (defBody s__law_near) (defScope s__law_near) .none kV29 dc29 pm29 an29 cd29 ct29), sl29⟩)
    (c29q : PySem.W.codeIn K cd29 "_law_near" = true)
    (k29 : PySem.W.keepIn K (.ref f29) = true)
    (a30 : PySem.W.nsIn K mainGlobals "_law_is_right" = some (some (.ref f30)))
    (l30 : K.lookup f30 = some ⟨oc30, od30, .func (PySem.W.fnOf "_law_is_right" "_law_is_right" (defArgs s__law_is_right) (defBody s__law_is_right) (defScope s__law_is_right) .none kV30 dc30 pm30 an30 cd30 ct30), sl30⟩)
    (c30q : PySem.W.codeIn K cd30 "_law_is_right" = true)
    (k30 : PySem.W.keepIn K (.ref f30) = true)
    (a31 : PySem.W.nsIn K mainGlobals "_law_draw" = some (some (.ref f31)))
    (l31 : K.lookup f31 = some ⟨oc31, od31, .func (PySem.W.fnOf "_law_draw" "_law_draw" (defArgs s__law_draw) (defBody s__law_draw) (defScope s__law_draw) .none kV31 dc31 pm31 an31 cd31 ct31), sl31⟩)
    (c31q : PySem.W.codeIn K cd31 "_law_draw" = true)
    (k31 : PySem.W.keepIn K (.ref f31) = true)
    (a32 : PySem.W.nsIn K mainGlobals "_law_hand" = some (some (.ref f32)))
    (l32 : K.lookup f32 = some ⟨oc32, od32, .func (PySem.W.fnOf "_law_hand" "_law_hand" (defArgs s__law_hand) (defBody s__law_hand) (defScope s__law_hand) .none kV32 dc32 pm32 an32 cd32 ct32), sl32⟩)
    (c32q : PySem.W.codeIn K cd32 "_law_hand" = true)
    (k32 : PySem.W.keepIn K (.ref f32) = true)
    (a33 : PySem.W.nsIn K mainGlobals "_law_heard" = some (some (.ref f33)))
    (l33 : K.lookup f33 = some ⟨oc33, od33, .func (PySem.W.fnOf "_law_heard" "_law_heard" (defArgs s__law_heard) (defBody s__law_heard) (defScope s__law_heard) .none kV33 dc33 pm33 an33 cd33 ct33), sl33⟩)
    (c33q : PySem.W.codeIn K cd33 "_law_heard" = true)
    (k33 : PySem.W.keepIn K (.ref f33) = true)
    (h34 : PySem.W.codeHdIn K c34 P34 = true)
    (n34 : K.lookup P34 = none)
    (a34 : PySem.W.nsIn K mainGlobals "_law_are_refused" = some (some (.ref f34)))
    (l34 : K.lookup f34 = some ⟨oc34, od34, .func (PySem.W.fnOf "_law_are_refused" "_law_are_refused" (defArgs s__law_are_refused) (defBody s__law_are_refused) (defScope s__law_are_refused) .none kV34 dc34 pm34 an34 (.ref c34) ct34), sl34⟩)
    (c34q : PySem.W.codeIn K (.ref c34) "_law_are_refused" = true)
    (k34 : PySem.W.keepIn K (.ref f34) = true)
    (a35 : PySem.W.nsIn K mainGlobals "law" = some (some (.ref f35)))
    (l35 : K.lookup f35 = some ⟨oc35, od35, .func (PySem.W.fnOf "law" "law" (defArgs s_law) (defBody s_law) (defScope s_law) .none kV35 dc35 pm35 an35 cd35 ct35), sl35⟩)
    (c35q : PySem.W.codeIn K cd35 "law" = true)
    (k35 : PySem.W.keepIn K (.ref f35) = true)
    (e34 : h.get? P34 = some (PySem.W.tabObj #[])) : LawAtS l w K (L2N.CX l.prog w) 9 63 "script" mg fa h := by
  have e := hfa.symm.trans (PySem.W.mg_of X G a35)
  cases e
  obtain ⟨cls, hcls⟩ : ∃ cls : String → Addr, cls = clsOf [("BadNumber", C0), ("BadWord", C1), ("TooMany", C2), ("first_double", f8), ("least_sum_period", f12), ("sum_sizes", f10)] := ⟨_, rfl⟩
  have vf_first_double : cls "first_double" = f8 := by rw [hcls]; simp [clsOf]
  have vf_least_sum_period : cls "least_sum_period" = f12 := by rw [hcls]; simp [clsOf]
  have vf_sum_sizes : cls "sum_sizes" = f10 := by rw [hcls]; simp [clsOf]
  have v0 : cls "BadNumber" = C0 := by rw [hcls]; simp [clsOf]
  have v1 : cls "BadWord" = C1 := by rw [hcls]; simp [clsOf]
  have v2 : cls "TooMany" = C2 := by rw [hcls]; simp [clsOf]
  have hmap : exNames.map cls = [C0, C1, C2] := by unfold exNames; rw [List.map_cons, List.map_cons, List.map_cons, List.map_nil, v0, v1, v2]
  have hmap2 : flNames.map cls = [C1, C0, C2] := by unfold flNames; rw [List.map_cons, List.map_cons, List.map_cons, List.map_nil, v0, v1, v2]
  obtain ⟨T, hT⟩ : ∃ T : List (Addr × Str), T = [(P34, Str.ofString "_law_are_refused" ++ Str.ofString ".<locals>." ++ Str.ofString "<lambda>")] := ⟨_, rfl⟩
  have F0 := fun_mk (st := s_is_integer) l0 c0q k0
  have B0 := F0.binds (ps := ["thing"]) fun _ _ _ _ _ _ us hl => match us, hl with | [_], _ => rfl
  have F1 := fun_mk (st := s_is_within) l1 c1q k1
  have B1 := F1.binds (ps := ["thing", "low", "high"]) fun _ _ _ _ _ _ us hl => match us, hl with | [_, _, _], _ => rfl
  have F2 := fun_mk (st := s_is_tuple_of) l2 c2q k2
  have B2 := F2.binds (ps := ["thing", "many"]) fun _ _ _ _ _ _ us hl => match us, hl with | [_, _], _ => rfl
  have F3 := fun_mk (st := s_is_text) l3 c3q k3
  have B3 := F3.binds (ps := ["thing", "most"]) fun _ _ _ _ _ _ us hl => match us, hl with | [_, _], _ => rfl
  have F4 := fun_mk (st := s_is_word) l4 c4q k4
  have B4 := F4.binds (ps := ["thing"]) fun _ _ _ _ _ _ us hl => match us, hl with | [_], _ => rfl
  have F5 := fun_mk (st := s_check_word) l5 c5q k5
  have B5 := F5.binds (ps := ["word"]) fun _ _ _ _ _ _ us hl => match us, hl with | [_], _ => rfl
  have F6 := fun_mk (st := s_check_words) l6 c6q k6
  have B6 := F6.binds (ps := ["one", "other"]) fun _ _ _ _ _ _ us hl => match us, hl with | [_, _], _ => rfl
  have F7 := fun_mk (st := s_same_letters) l7 c7q k7
  have B7 := F7.binds (ps := ["one", "other"]) fun _ _ _ _ _ _ us hl => match us, hl with | [_, _], _ => rfl
  have F8 := fun_mk (st := s_first_double) l8 c8q k8
  have B8 := F8.binds (ps := ["word"]) fun _ _ _ _ _ _ us hl => match us, hl with | [_], _ => rfl
  have F9 := fun_mk (st := s_is_double) l9 c9q k9
  have B9 := F9.binds (ps := ["word", "thing"]) fun _ _ _ _ _ _ us hl => match us, hl with | [_, _], _ => rfl
  have F10 := fun_mk (st := s_sum_sizes) l10 c10q k10
  have B10 := F10.binds (ps := ["word"]) fun _ _ _ _ _ _ us hl => match us, hl with | [_], _ => rfl
  have F11 := fun_mk (st := s_is_sum_period) l11 c11q k11
  have B11 := F11.binds (ps := ["word", "step"]) fun _ _ _ _ _ _ us hl => match us, hl with | [_, _], _ => rfl
  have F12 := fun_mk (st := s_least_sum_period) l12 c12q k12
  have B12 := F12.binds (ps := ["word"]) fun _ _ _ _ _ _ us hl => match us, hl with | [_], _ => rfl
  have F13 := fun_mk (st := s_counts_met) l13 c13q k13
  have B13 := F13.binds (ps := ["word", "counts"]) fun _ _ _ _ _ _ us hl => match us, hl with | [_, _], _ => rfl
  have F14 := fun_mk (st := s__law_any) l14 c14q k14
  have B14 := F14.binds (ps := ["hand", "some"]) fun _ _ _ _ _ _ us hl => match us, hl with | [_, _], _ => rfl
  have F15 := fun_mk (st := s__law_shuffled) l15 c15q k15
  have B15 := F15.binds (ps := ["hand", "some"]) fun _ _ _ _ _ _ us hl => match us, hl with | [_, _], _ => rfl
  have F16 := fun_mk (st := s__law_is) l16 c16q k16
  have B16 := F16.binds (ps := ["said", "due"]) fun _ _ _ _ _ _ us hl => match us, hl with | [_, _], _ => rfl
  have F17 := fun_mk (st := s__law_is_int) l17 c17q k17
  have B17 := F17.binds (ps := ["thing"]) fun _ _ _ _ _ _ us hl => match us, hl with | [_], _ => rfl
  have F18 := fun_mk (st := s__law_some) l18 c18q k18
  have B18 := F18.binds (ps := ["hand", "letters", "length"]) fun _ _ _ _ _ _ us hl => match us, hl with | [_, _, _], _ => rfl
  have F19 := fun_mk (st := s__law_word) l19 c19q k19
  have B19 := F19.binds (ps := ["hand", "letters", "most"]) fun _ _ _ _ _ _ us hl => match us, hl with | [_, _, _], _ => rfl
  have F20 := fun_mk (st := s__law_deep) l20 c20q k20
  have B20 := F20.binds (ps := ["hand"]) fun _ _ _ _ _ _ us hl => match us, hl with | [_], _ => rfl
  have F21 := fun_mk (st := s__law_counts) l21 c21q k21
  have B21 := F21.binds (ps := ["word", "many"]) fun _ _ _ _ _ _ us hl => match us, hl with | [_, _], _ => rfl
  have F22 := fun_mk (st := s__law_are_same) l22 c22q k22
  have B22 := F22.binds (ps := ["one", "other"]) fun _ _ _ _ _ _ us hl => match us, hl with | [_, _], _ => rfl
  have F23 := fun_mk (st := s__law_double) l23 c23q k23
  have B23 := F23.binds (ps := ["word"]) fun _ _ _ _ _ _ us hl => match us, hl with | [_], _ => rfl
  have F24 := fun_mk (st := s__law_is_double) l24 c24q k24
  have B24 := F24.binds (ps := ["word", "thing"]) fun _ _ _ _ _ _ us hl => match us, hl with | [_, _], _ => rfl
  have F25 := fun_mk (st := s__law_sizes) l25 c25q k25
  have B25 := F25.binds (ps := ["word"]) fun _ _ _ _ _ _ us hl => match us, hl with | [_], _ => rfl
  have F26 := fun_mk (st := s__law_period) l26 c26q k26
  have B26 := F26.binds (ps := ["word"]) fun _ _ _ _ _ _ us hl => match us, hl with | [_], _ => rfl
  have F27 := fun_mk (st := s__law_met) l27 c27q k27
  have B27 := F27.binds (ps := ["word", "counts"]) fun _ _ _ _ _ _ us hl => match us, hl with | [_, _], _ => rfl
  have F28 := fun_mk (st := s__law_made) l28 c28q k28
  have B28 := F28.binds (ps := ["hand"]) fun _ _ _ _ _ _ us hl => match us, hl with | [_], _ => rfl
  have F29 := fun_mk (st := s__law_near) l29 c29q k29
  have B29 := F29.binds (ps := ["hand", "word"]) fun _ _ _ _ _ _ us hl => match us, hl with | [_, _], _ => rfl
  have F30 := fun_mk (st := s__law_is_right) l30 c30q k30
  have B30 := F30.binds (ps := ["hand", "word"]) fun _ _ _ _ _ _ us hl => match us, hl with | [_, _], _ => rfl
  have F31 := fun_mk (st := s__law_draw) l31 c31q k31
  have B31 := F31.binds (ps := ["hand", "many"]) fun _ _ _ _ _ _ us hl => match us, hl with | [_, _], _ => rfl
  have F32 := fun_mk (st := s__law_hand) l32 c32q k32
  have B32 := F32.binds (ps := ["script"]) fun _ _ _ _ _ _ us hl => match us, hl with | [_], _ => rfl
  have F33 := fun_mk (st := s__law_heard) l33 c33q k33
  have B33 := F33.binds (ps := ["call"]) fun _ _ _ _ _ _ us hl => match us, hl with | [_], _ => rfl
  have F34 := fun_mk (st := s__law_are_refused) l34 c34q k34
  have B34 := F34.binds (ps := ["hand"]) fun _ _ _ _ _ _ us hl => match us, hl with | [_], _ => rfl
  have F35 := fun_mk (st := s_law) l35 c35q k35
  have B35 := F35.binds (ps := ["script"]) fun _ _ _ _ _ _ us hl => match us, hl with | [_], _ => rfl
  have xA := List.all_eq_true.mp xE
  have TX2 : OexC K C2 := ⟨⟨_, _, _, _, _, _, _, _, _, _, _, _, _, _, _, xL2, xR2⟩, xS2, by have := xG2; unfold exc2B at this; simp only [Bool.and_eq_true, decide_eq_true_eq] at this; exact this.1.2, by have := xG2; unfold exc2B at this; simp only [Bool.and_eq_true, decide_eq_true_eq] at this; exact this.2, by have := xG2; unfold exc2B at this; simp only [Bool.and_eq_true, decide_eq_true_eq] at this; exact this.1.1⟩
  have FI2 := fun_mk (st := s_init_TooMany) iL2 iC2 iK2
  have BI2 := FI2.binds (ps := ["self", "most"]) fun _ _ _ _ _ _ us hl => match us, hl with | [_, _], _ => rfl
  have gx : ∀ n ∈ exNames, mg (Str.ofString n) = some (.ref (cls n)) := fun n hn => by
    unfold exNames at hn
    simp only [List.mem_cons, List.not_mem_nil, or_false] at hn
    rcases hn with rfl | rfl | rfl
    · rw [v0]; exact PySem.W.mg_of X G aX0
    · rw [v1]; exact PySem.W.mg_of X G aX1
    · rw [v2]; exact PySem.W.mg_of X G aX2
  have inj : ∀ n ∈ exNames, ∀ m ∈ exNames, cls n = cls m → n = m := fun n hn m hm => by
    unfold distB distB distB distB at xD
    simp only [List.all_cons, List.all_nil, Bool.and_true, Bool.and_eq_true, Bool.not_eq_true', decide_eq_false_iff_not] at xD
    unfold exNames at hn hm
    simp only [List.mem_cons, List.not_mem_nil, or_false] at hn hm
    rcases hn with rfl | rfl | rfl <;> rcases hm with rfl | rfl | rfl <;> simp only [v0, v1, v2] <;> intro hz <;> first | exact True.intro | rfl | (exfalso; subst hz; simp at xD) | (exfalso; rw [hz] at xD; simp at xD)
  have CKf : ∀ hd, CK ⟨K, hd, T, cls⟩ mg := fun hd => ⟨⟨CW, PySem.W.mg_of X G aW, by show Exs K CW (exNames.map cls) (flNames.map cls); rw [hmap, hmap2]; exact exs_of xB⟩, inj, gx, by show XfC K (cls "TooMany"); rw [v2]; exact xfB_ok xF2, by show PySem.W.findIn K (.ref (cls "TooMany")) "most" = some none; rw [v2]; exact xN2, PySem.W.mg_none_of X G z3, PySem.W.mg_none_of X G z16, PySem.W.mg_none_of X G z4⟩
  have LCf : ∀ hd, CaughtLk ⟨K, hd, T, cls⟩ mg := fun hd => ⟨f33, _, _, _, _, _, _, _, _, _, PySem.W.mg_of X G a33, k33, l33, c33q, B33⟩
  have FC : ∀ hh, Fc ⟨K, some hh, T, cls⟩ mg := fun hh => {
    ck := CKf _,
    lc := LCf _,
    hd := ⟨hh, rfl⟩,
    f__law_draw := ⟨f31, _, F31, PySem.W.mg_of X G a31, B31⟩,
    z_all := PySem.W.mg_none_of X G z0,
    z_any := PySem.W.mg_none_of X G z1,
    z_dict := PySem.W.mg_none_of X G z2,
    z_isinstance := PySem.W.mg_none_of X G z3,
    z_len := PySem.W.mg_none_of X G z4,
    z_list := PySem.W.mg_none_of X G z5,
    z_range := PySem.W.mg_none_of X G z6,
    z_set := PySem.W.mg_none_of X G z7,
    z_sorted := PySem.W.mg_none_of X G z8,
    z_sum := PySem.W.mg_none_of X G z9,
    z_tuple := PySem.W.mg_none_of X G z10,
    z_zip := PySem.W.mg_none_of X G z11,
    g_LETTERS := ⟨_, PySem.W.mg_of X G g0, ⟨_, rfl⟩⟩,
    g_MOST_LONG := ⟨_, PySem.W.mg_of X G g2, ⟨_, rfl⟩⟩,
    g_MOST_WORD := ⟨_, PySem.W.mg_of X G g1, ⟨_, rfl⟩⟩,
    fv_first_double := by show mg "first_double" = some (.ref (cls "first_double")); rw [vf_first_double]; exact PySem.W.mg_of X G a8,
    fv_least_sum_period := by show mg "least_sum_period" = some (.ref (cls "least_sum_period")); rw [vf_least_sum_period]; exact PySem.W.mg_of X G a12,
    fv_sum_sizes := by show mg "sum_sizes" = some (.ref (cls "sum_sizes")); rw [vf_sum_sizes]; exact PySem.W.mg_of X G a10,
    z_bool := PySem.W.mg_none_of X G z12,
    z_int := PySem.W.mg_none_of X G z13,
    z_str := PySem.W.mg_none_of X G z14,
    e_BadNumber := exc_of (W := ⟨K, some hh, T, cls⟩) (gx "BadNumber" (by decide)) (by show excB K (cls "BadNumber") = true; rw [v0]; exact xA _ (by simp)),
    e_BadWord := exc_of (W := ⟨K, some hh, T, cls⟩) (gx "BadWord" (by decide)) (by show excB K (cls "BadWord") = true; rw [v1]; exact xA _ (by simp)),
    x_TooMany := fun P w base => ⟨gx "TooMany" (by decide), by show OexC K (cls "TooMany"); rw [v2]; exact TX2, fI2, _, by show PySem.W.findIn K (.ref (cls "TooMany")) "__init__" = _; rw [v2]; exact iA2, iT2, BI2, by show FnOk P w K mg base (L2N.CX P w) 1 fI2 _ ["self", "most"] (spI (cls "TooMany") "most"); rw [v2]; exact init_ok FI2 sc_init_TooMany rfl TX2 xN2 (.inl rfl) (.inl rfl) (by decide) (by decide)⟩,
    z_abs := PySem.W.mg_none_of X G z15,
    f_is_integer := ⟨f0, _, F0, PySem.W.mg_of X G a0, B0⟩,
    f_is_within := ⟨f1, _, F1, PySem.W.mg_of X G a1, B1⟩,
    f_is_tuple_of := ⟨f2, _, F2, PySem.W.mg_of X G a2, B2⟩,
    f_is_text := ⟨f3, _, F3, PySem.W.mg_of X G a3, B3⟩,
    f_is_word := ⟨f4, _, F4, PySem.W.mg_of X G a4, B4⟩,
    f_check_word := ⟨f5, _, F5, PySem.W.mg_of X G a5, B5⟩,
    f_check_words := ⟨f6, _, F6, PySem.W.mg_of X G a6, B6⟩,
    f_same_letters := ⟨f7, _, F7, PySem.W.mg_of X G a7, B7⟩,
    f_first_double := ⟨f8, _, F8, PySem.W.mg_of X G a8, B8⟩,
    f_is_double := ⟨f9, _, F9, PySem.W.mg_of X G a9, B9⟩,
    f_sum_sizes := ⟨f10, _, F10, PySem.W.mg_of X G a10, B10⟩,
    f_is_sum_period := ⟨f11, _, F11, PySem.W.mg_of X G a11, B11⟩,
    f_least_sum_period := ⟨f12, _, F12, PySem.W.mg_of X G a12, B12⟩,
    f_counts_met := ⟨f13, _, F13, PySem.W.mg_of X G a13, B13⟩,
    f__law_any := ⟨f14, _, F14, PySem.W.mg_of X G a14, B14⟩,
    f__law_shuffled := ⟨f15, _, F15, PySem.W.mg_of X G a15, B15⟩,
    f__law_is := ⟨f16, _, F16, PySem.W.mg_of X G a16, B16⟩,
    f__law_is_int := ⟨f17, _, F17, PySem.W.mg_of X G a17, B17⟩,
    f__law_some := ⟨f18, _, F18, PySem.W.mg_of X G a18, B18⟩,
    f__law_word := ⟨f19, _, F19, PySem.W.mg_of X G a19, B19⟩,
    f__law_deep := ⟨f20, _, F20, PySem.W.mg_of X G a20, B20⟩,
    f__law_counts := ⟨f21, _, F21, PySem.W.mg_of X G a21, B21⟩,
    f__law_are_same := ⟨f22, _, F22, PySem.W.mg_of X G a22, B22⟩,
    f__law_double := ⟨f23, _, F23, PySem.W.mg_of X G a23, B23⟩,
    f__law_is_double := ⟨f24, _, F24, PySem.W.mg_of X G a24, B24⟩,
    f__law_sizes := ⟨f25, _, F25, PySem.W.mg_of X G a25, B25⟩,
    f__law_period := ⟨f26, _, F26, PySem.W.mg_of X G a26, B26⟩,
    f__law_met := ⟨f27, _, F27, PySem.W.mg_of X G a27, B27⟩,
    f__law_made := ⟨f28, _, F28, PySem.W.mg_of X G a28, B28⟩,
    f__law_near := ⟨f29, _, F29, PySem.W.mg_of X G a29, B29⟩,
    f__law_is_right := ⟨f30, _, F30, PySem.W.mg_of X G a30, B30⟩ }
  refine ⟨PySem.W.fnOf "law" "law" (defArgs s_law) (defBody s_law) (defScope s_law) .none kV35 dc35 pm35 an35 cd35 ct35, [(c34, P34)], spLaw K T, ?_, ?_, ?_, fun s u => .of_eq rfl, ?_, ?_⟩
  · intro p hp
    simp only [List.mem_cons, List.not_mem_nil, or_false] at hp
    subst hp
    exact e34
  · intro p hp
    simp only [List.mem_cons, List.not_mem_nil, or_false] at hp
    subst hp
    exact n34
  · intro p hp
    simp only [List.mem_cons, List.not_mem_nil, or_false] at hp
    subst hp
    exact PySem.W.codeHd_of_K X h34
  · intro H a ns _ _ hH hS
    refine ⟨a, ns, rfl, hS, ?_, fun _ => rfl⟩
    intro p hp
    rw [hT] at hp
    simp only [List.mem_cons, List.not_mem_nil, or_false] at hp
    subst hp
    exact TabS.nil (hH (c34, P34) (by simp))
  · intro base _ _ hB
    have tg34 := hB (c34, P34) (by simp)
    refine ok_law (cls := cls) FC ⟨f34, c34, P34, _, _, _, _, _, _, _, _, PySem.W.mg_of X G a34, k34, l34, c34q, tg34, ?_, ?_⟩ F35 (ok_hand (cls := cls) F32 (PySem.W.mg_none_of X G z15) (PySem.W.mg_none_of X G z13) (PySem.W.mg_none_of X G z4)) (PySem.W.mg_of X G a32) k32 B32
    · rw [hT]; simp
    · intro p hp hz
      rw [hT] at hp
      simp only [List.mem_cons, List.not_mem_nil, or_false] at hp
      subst hp
      rfl
end LK
open PySem PySem.W PyProof.Rows
set_option maxRecDepth 100000 in
set_option maxHeartbeats 0 in
theorem PySem.Challenge.cw_wheelwords_k79_whole_doubles_and_sums_holds : PySem.Challenge.rw_wheelwords_k79_whole_doubles_and_sums.Holds := by
  w_on; o_law; k_head; (case hw => w_witness2)
  k_fill
  refine LamX.walk_ofTs (l := PySem.Challenge.rw_wheelwords_k79_whole_doubles_and_sums) (n := 63) (k := 9) (x := "script") (CX := fun w => L2N.CX PySem.Challenge.rw_wheelwords_k79_whole_doubles_and_sums.prog w) rfl (by decide) rfl ⟨rfl, by decide, by decide⟩ (fun w h Y => PySem.W.km_in_of Y) ?F (fun w H s e s' h => by obtain ⟨_, _, _, _, _, _, _, _, _, _, _, _, z⟩ := h; exact z)
  case F =>
    intro w mg fa h Y KX G hmg
    have hT8 := PySem.W.km_tabs_of Y
    refine' LK.all_mk KX G hmg ?qx_z0 ?qx_z1 ?qx_z2 ?qx_z3 ?qx_z4 ?qx_z5 ?qx_z6 ?qx_z7 ?qx_z8 ?qx_z9 ?qx_z10 ?qx_z11 ?qx_z12 ?qx_z13 ?qx_z14 ?qx_z15 ?qx_z16 ?qx_g0 ?qx_g1 ?qx_g2 ?qx_aW ?qx_aX0 ?qx_aX1 ?qx_aX2 ?qx_xB ?qx_xD ?qx_xE ?qx_xG2 ?qx_xF2 ?qx_xL2 ?qx_xR2 ?qx_xS2 ?qx_xN2 ?qx_iA2 ?qx_iT2 ?qx_iL2 ?qx_iC2 ?qx_iK2 ?qx_a0 ?qx_l0 ?qx_c0q ?qx_k0 ?qx_a1 ?qx_l1 ?qx_c1q ?qx_k1 ?qx_a2 ?qx_l2 ?qx_c2q ?qx_k2 ?qx_a3 ?qx_l3 ?qx_c3q ?qx_k3 ?qx_a4 ?qx_l4 ?qx_c4q ?qx_k4 ?qx_a5 ?qx_l5 ?qx_c5q ?qx_k5 ?qx_a6 ?qx_l6 ?qx_c6q ?qx_k6 ?qx_a7 ?qx_l7 ?qx_c7q ?qx_k7 ?qx_a8 ?qx_l8 ?qx_c8q ?qx_k8 ?qx_a9 ?qx_l9 ?qx_c9q ?qx_k9 ?qx_a10 ?qx_l10 ?qx_c10q ?qx_k10 ?qx_a11 ?qx_l11 ?qx_c11q ?qx_k11 ?qx_a12 ?qx_l12 ?qx_c12q ?qx_k12 ?qx_a13 ?qx_l13 ?qx_c13q ?qx_k13 ?qx_a14 ?qx_l14 ?qx_c14q ?qx_k14 ?qx_a15 ?qx_l15 ?qx_c15q ?qx_k15 ?qx_a16 ?qx_l16 ?qx_c16q ?qx_k16 ?qx_a17 ?qx_l17 ?qx_c17q ?qx_k17 ?qx_a18 ?qx_l18 ?qx_c18q ?qx_k18 ?qx_a19 ?qx_l19 ?qx_c19q ?qx_k19 ?qx_a20 ?qx_l20 ?qx_c20q ?qx_k20 ?qx_a21 ?qx_l21 ?qx_c21q ?qx_k21 ?qx_a22 ?qx_l22 ?qx_c22q ?qx_k22 ?qx_a23 ?qx_l23 ?qx_c23q ?qx_k23 ?qx_a24 ?qx_l24 ?qx_c24q ?qx_k24 ?qx_a25 ?qx_l25 ?qx_c25q ?qx_k25 ?qx_a26 ?qx_l26 ?qx_c26q ?qx_k26 ?qx_a27 ?qx_l27 ?qx_c27q ?qx_k27 ?qx_a28 ?qx_l28 ?qx_c28q ?qx_k28 ?qx_a29 ?qx_l29 ?qx_c29q ?qx_k29 ?qx_a30 ?qx_l30 ?qx_c30q ?qx_k30 ?qx_a31 ?qx_l31 ?qx_c31q ?qx_k31 ?qx_a32 ?qx_l32 ?qx_c32q ?qx_k32 ?qx_a33 ?qx_l33 ?qx_c33q ?qx_k33 ?qx_h34 ?qx_n34 ?qx_a34 ?qx_l34 ?qx_c34q ?qx_k34 ?qx_a35 ?qx_l35 ?qx_c35q ?qx_k35 ?qx_e34
    (case qx_z0 => k_is)
    (case qx_z1 => k_is)
    (case qx_z2 => k_is)
    (case qx_z3 => k_is)
    (case qx_z4 => k_is)
    (case qx_z5 => k_is)
    (case qx_z6 => k_is)
    (case qx_z7 => k_is)
    (case qx_z8 => k_is)
    (case qx_z9 => k_is)
    (case qx_z10 => k_is)
    (case qx_z11 => k_is)
    (case qx_z12 => k_is)
    (case qx_z13 => k_is)
    (case qx_z14 => k_is)
    (case qx_z15 => k_is)
    (case qx_z16 => k_is)
    (case qx_g0 => k_is)
    (case qx_g1 => k_is)
    (case qx_g2 => k_is)
    (case qx_aW => k_is)
    (case qx_aX0 => k_is)
    (case qx_aX1 => k_is)
    (case qx_aX2 => k_is)
    (case qx_xL2 => k_is)
    (case qx_xS2 => k_is)
    (case qx_xN2 => k_is)
    (case qx_iA2 => k_is)
    (case qx_iT2 => k_is)
    (case qx_iL2 => k_is)
    (case qx_iC2 => k_is)
    (case qx_iK2 => k_is)
    (case qx_a0 => k_is)
    (case qx_l0 => k_is)
    (case qx_c0q => k_is)
    (case qx_k0 => k_is)
    (case qx_a1 => k_is)
    (case qx_l1 => k_is)
    (case qx_c1q => k_is)
    (case qx_k1 => k_is)
    (case qx_a2 => k_is)
    (case qx_l2 => k_is)
    (case qx_c2q => k_is)
    (case qx_k2 => k_is)
    (case qx_a3 => k_is)
    (case qx_l3 => k_is)
    (case qx_c3q => k_is)
    (case qx_k3 => k_is)
    (case qx_a4 => k_is)
    (case qx_l4 => k_is)
    (case qx_c4q => k_is)
    (case qx_k4 => k_is)
    (case qx_a5 => k_is)
    (case qx_l5 => k_is)
    (case qx_c5q => k_is)
    (case qx_k5 => k_is)
    (case qx_a6 => k_is)
    (case qx_l6 => k_is)
    (case qx_c6q => k_is)
    (case qx_k6 => k_is)
    (case qx_a7 => k_is)
    (case qx_l7 => k_is)
    (case qx_c7q => k_is)
    (case qx_k7 => k_is)
    (case qx_a8 => k_is)
    (case qx_l8 => k_is)
    (case qx_c8q => k_is)
    (case qx_k8 => k_is)
    (case qx_a9 => k_is)
    (case qx_l9 => k_is)
    (case qx_c9q => k_is)
    (case qx_k9 => k_is)
    (case qx_a10 => k_is)
    (case qx_l10 => k_is)
    (case qx_c10q => k_is)
    (case qx_k10 => k_is)
    (case qx_a11 => k_is)
    (case qx_l11 => k_is)
    (case qx_c11q => k_is)
    (case qx_k11 => k_is)
    (case qx_a12 => k_is)
    (case qx_l12 => k_is)
    (case qx_c12q => k_is)
    (case qx_k12 => k_is)
    (case qx_a13 => k_is)
    (case qx_l13 => k_is)
    (case qx_c13q => k_is)
    (case qx_k13 => k_is)
    (case qx_a14 => k_is)
    (case qx_l14 => k_is)
    (case qx_c14q => k_is)
    (case qx_k14 => k_is)
    (case qx_a15 => k_is)
    (case qx_l15 => k_is)
    (case qx_c15q => k_is)
    (case qx_k15 => k_is)
    (case qx_a16 => k_is)
    (case qx_l16 => k_is)
    (case qx_c16q => k_is)
    (case qx_k16 => k_is)
    (case qx_a17 => k_is)
    (case qx_l17 => k_is)
    (case qx_c17q => k_is)
    (case qx_k17 => k_is)
    (case qx_a18 => k_is)
    (case qx_l18 => k_is)
    (case qx_c18q => k_is)
    (case qx_k18 => k_is)
    (case qx_a19 => k_is)
    (case qx_l19 => k_is)
    (case qx_c19q => k_is)
    (case qx_k19 => k_is)
    (case qx_a20 => k_is)
    (case qx_l20 => k_is)
    (case qx_c20q => k_is)
    (case qx_k20 => k_is)
    (case qx_a21 => k_is)
    (case qx_l21 => k_is)
    (case qx_c21q => k_is)
    (case qx_k21 => k_is)
    (case qx_a22 => k_is)
    (case qx_l22 => k_is)
    (case qx_c22q => k_is)
    (case qx_k22 => k_is)
    (case qx_a23 => k_is)
    (case qx_l23 => k_is)
    (case qx_c23q => k_is)
    (case qx_k23 => k_is)
    (case qx_a24 => k_is)
    (case qx_l24 => k_is)
    (case qx_c24q => k_is)
    (case qx_k24 => k_is)
    (case qx_a25 => k_is)
    (case qx_l25 => k_is)
    (case qx_c25q => k_is)
    (case qx_k25 => k_is)
    (case qx_a26 => k_is)
    (case qx_l26 => k_is)
    (case qx_c26q => k_is)
    (case qx_k26 => k_is)
    (case qx_a27 => k_is)
    (case qx_l27 => k_is)
    (case qx_c27q => k_is)
    (case qx_k27 => k_is)
    (case qx_a28 => k_is)
    (case qx_l28 => k_is)
    (case qx_c28q => k_is)
    (case qx_k28 => k_is)
    (case qx_a29 => k_is)
    (case qx_l29 => k_is)
    (case qx_c29q => k_is)
    (case qx_k29 => k_is)
    (case qx_a30 => k_is)
    (case qx_l30 => k_is)
    (case qx_c30q => k_is)
    (case qx_k30 => k_is)
    (case qx_a31 => k_is)
    (case qx_l31 => k_is)
    (case qx_c31q => k_is)
    (case qx_k31 => k_is)
    (case qx_a32 => k_is)
    (case qx_l32 => k_is)
    (case qx_c32q => k_is)
    (case qx_k32 => k_is)
    (case qx_a33 => k_is)
    (case qx_l33 => k_is)
    (case qx_c33q => k_is)
    (case qx_k33 => k_is)
    (case qx_a34 => k_is)
    (case qx_l34 => k_is)
    (case qx_c34q => k_is)
    (case qx_k34 => k_is)
    (case qx_a35 => k_is)
    (case qx_l35 => k_is)
    (case qx_c35q => k_is)
    (case qx_k35 => k_is)
    (case qx_xB => kernel_rfl)
    (case qx_xD => first | rfl | kernel_rfl)
    (case qx_xE => kernel_rfl)
    (case qx_xG2 => kernel_rfl)
    (case qx_xF2 => kernel_rfl)
    (case qx_xR2 => first | rfl | kernel_rfl)
    (case qx_h34 => exact (show PySem.W.codeHdIn _ _ 284 = true by kernel_rfl))
    (case qx_n34 => first | k_is | kernel_rfl)
    (case qx_e34 => exact hT8 _ (by simp))
