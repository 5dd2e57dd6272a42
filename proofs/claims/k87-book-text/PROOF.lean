import PyProof.Rows.All
import Wide.All
import OpenK.AllK
import Wide.FinOn
import HandS.ForMost
import HandS.CallSlots
import KE.DataEq
import KE.DataCmp
import KE.DataMinMax
import KE.SortData
import HandS.TupAny
import HandS.IsInst
import HandS.TupLen
import HandS.Flow
import HandS.Style
import HandS.Conv
import HandS.Strs
import HandS.Star
import HandS.Codes
import HandS.WordsDict
import HandS.WordsExc
import HandS.ExcOwn
import HandS.Text
import HandS.Comp
import HandS.Iter
import KE.KUnpackStar
import HandS.ExcValue
import HandS.DictTup
import HandS.Words
import HandS.OwnEq
import PySem.Challenge.RW_wishmet_k87_book_text
set_option Elab.async false
set_option linter.all false
set_option maxRecDepth 100000
set_option maxHeartbeats 4000000
/-! Dn: deep values over the hand layer. -/
namespace Dn
open PySem PySem.Spec L2
open PyProof.Rows hiding St

/-- a book, by what it holds -/
structure Bk where
  back : List Nat
  bar : List (Nat × Nat × Nat)
  deriving DecidableEq

/-- a deep value -/
inductive D where
  | non
  | bl (b : Bool)
  | int (i : Int)
  | str (x : Str)
  | tup (xs : List D)
  | lst (xs : List D)
  | dk (es : List (Key × D))
  | dt (es : List (List Key × D))
  | book (b : Bk)
  | lets (b : Bk)
  | scr (ns : List Int)
  | obj (a : Addr)

/-! ### deep values as the kit's data -/
mutual
def toP : D → PyData
  | .non => .none
  | .bl b => .bool b
  | .int i => .int i
  | .str x => .str x
  | .tup xs => .tuple (toPs xs)
  | .lst xs => .list (toPs xs)
  | .dk _ => .dict []
  | .dt _ => .dict []
  | .book _ => .dict []
  | .lets _ => .dict []
  | .scr _ => .dict []
  | .obj _ => .dict []
def toPs : List D → List PyData
  | [] => []
  | x :: xs => toP x :: toPs xs
end
theorem toPs_map : ∀ xs : List D, toPs xs = xs.map toP
  | [] => by simp [toPs]
  | x :: xs => by simp [toPs, toPs_map xs]

/-- what does not change while a law runs -/
structure Th where
  K : PySem.W.Frag
  bk : Addr
  kn : Bk → Bool

def natV (n : Nat) : V := .int n
def trioV (t : Nat × Nat × Nat) : List V := [natV t.1, natV t.2.1, natV t.2.2]

/-- the six tellings of a trio, the least one, all trios of so many kinds -/
def tellingsN (back : List Nat) (t : Nat × Nat × Nat) : List (Nat × Nat × Nat) :=
  let p := t.1; let q := t.2.1; let r := t.2.2
  let b := fun i => back.getD i 0
  [(p, q, r), (b p, r, q), (r, b q, p), (b q, b p, b r), (q, b r, b p), (b r, p, b q)]
def lt3 (s t : Nat × Nat × Nat) : Bool := decide (s.1 < t.1) || (decide (s.1 = t.1) && (decide (s.2.1 < t.2.1) || (decide (s.2.1 = t.2.1) && decide (s.2.2 < t.2.2))))
def min3 : Nat × Nat × Nat → List (Nat × Nat × Nat) → Nat × Nat × Nat
  | m, [] => m
  | m, t :: ts => min3 (if lt3 t m then t else m) ts
def formN (back : List Nat) (t : Nat × Nat × Nat) : Nat × Nat × Nat := min3 t (tellingsN back t).tail
def allTrios (k : Nat) : List (Nat × Nat × Nat) := (List.range k).flatMap fun p => (List.range k).flatMap fun q => (List.range k).map fun r => (p, q, r)
def letTrios (b : Bk) : List (Nat × Nat × Nat) := (allTrios b.back.length).filter fun t => !b.bar.contains (formN b.back t)
def trioK (t : Nat × Nat × Nat) : List Key := [.inl t.1, .inl t.2.1, .inl t.2.2]
def letsKV (b : Bk) : List (List Key × V) := (letTrios b).map fun t => (trioK t, V.bl true)

/-- a tuple of trios -/
def TrioTup (H : Hp) (a : Addr) (ts : List (Nat × Nat × Nat)) : Prop :=
  ∃ rs : List Addr, H a = some (.tup (rs.map V.ref)) ∧ rs.length = ts.length ∧ ∀ (i : Nat) (r : Addr) (t : Nat × Nat × Nat), rs[i]? = some r → ts[i]? = some t → H r = some (.tup (trioV t))

/-- the fields of a book but what is known -/
structure BookFs (H : Hp) (fs : List (Str × V)) (b : Bk) : Prop where
  back : ∃ a, fs.lookup ("back" : Str) = some (V.ref a) ∧ H a = some (.tup (b.back.map natV))
  bar : ∃ a, fs.lookup ("barred" : Str) = some (V.ref a) ∧ TrioTup H a b.bar
  kinds : fs.lookup ("kinds" : Str) = some (V.int b.back.length)
  lets : ∃ a, fs.lookup ("lets" : Str) = some (V.ref a) ∧ ∃ o, H a = some (.frz o (.dT (letsKV b)))
  len : fs.length ≤ 5
  nam : fs.map (·.1) = [("back" : Str), ("barred" : Str), ("kinds" : Str), ("lets" : Str), ("known_knit" : Str)]
def KvOk (Θ : Th) (fs : List (Str × V)) (b : Bk) : Prop := ∃ kv, fs.lookup ("known_knit" : Str) = some kv ∧ (kv = .non ∨ kv = .bl (Θ.kn b))
mutual
inductive Den (Θ : Th) (H : Hp) : V → D → Prop
  | non : Den Θ H .non .non
  | bl (b : Bool) : Den Θ H (.bl b) (.bl b)
  | int (i : Int) : Den Θ H (.int i) (.int i)
  | str (x : Str) : Den Θ H (.str x) (.str x)
  | tup {a : Addr} {vs : List V} {ds : List D} : H a = some (.tup vs) → Dens Θ H vs ds → Den Θ H (.ref a) (.tup ds)
  | lst {a : Addr} {vs : List V} {ds : List D} : H a = some (.lst vs) → Dens Θ H vs ds → Den Θ H (.ref a) (.lst ds)
  | dk {a : Addr} {kvs : List (Key × V)} {es : List (Key × D)} : H a = some (.dK kvs) → kvs.map (·.1) = es.map (·.1) → Dens Θ H (kvs.map (·.2)) (es.map (·.2)) → Den Θ H (.ref a) (.dk es)
  | dt {a : Addr} {kvs : List (List Key × V)} {es : List (List Key × D)} : H a = some (.dT kvs) → kvs.map (·.1) = es.map (·.1) → Dens Θ H (kvs.map (·.2)) (es.map (·.2)) → Den Θ H (.ref a) (.dt es)
  | book {a dx : Addr} {fs : List (Str × V)} {b : Bk} : H a = some (.ins Θ.bk dx fs) → BookFs H fs b → KvOk Θ fs b → Den Θ H (.ref a) (.book b)
  | lets {a : Addr} {o : Obj} {b : Bk} : H a = some (.frz o (.dT (letsKV b))) → Den Θ H (.ref a) (.lets b)
  | scr {a : Addr} {ns : List Int} : SqL Θ.K H a (ns.map V.int) → Den Θ H (.ref a) (.scr ns)
  | obj {a : Addr} : Den Θ H (.ref a) (.obj a)
inductive Dens (Θ : Th) (H : Hp) : List V → List D → Prop
  | nil : Dens Θ H [] []
  | cons {v : V} {vs : List V} {d : D} {ds : List D} : Den Θ H v d → Dens Θ H vs ds → Dens Θ H (v :: vs) (d :: ds)
end

open Classical in
/-- a heap without the addresses of P -/
noncomputable def hide (P : Addr → Prop) (H : Hp) : Hp := fun b => if P b then none else H b
/-- books that are shown may come to be known as knit; all else that is there stays -/
def Ext (Θ : Th) (P : Addr → Prop) (H H' : Hp) : Prop := ∀ a o, H a = some o → H' a = some o ∨
  (¬ P a ∧ ∃ dx fs fs' b, o = .ins Θ.bk dx fs ∧ H' a = some (.ins Θ.bk dx fs') ∧ (∀ f : Str, f ≠ "known_knit" → fs'.lookup f = fs.lookup f) ∧ fs'.map (·.1) = fs.map (·.1) ∧ BookFs (hide P H') fs' b ∧ KvOk Θ fs' b)

section
variable {Θ : Th} {P P' : Addr → Prop} {G H H' H'' : Hp} {a b : Addr} {o : HO}
theorem hide_of (h : H a = some o) (n : ¬ P a) : hide P H a = some o := by
  classical
  show (if P a then none else H a) = some o
  exact (if_neg n).trans h
theorem of_hide (h : hide P H a = some o) : H a = some o ∧ ¬ P a := by
  unfold hide at h
  split at h
  · cases h
  · rename_i n; exact ⟨h, n⟩
theorem hide_sub : ∀ a o, hide P H a = some o → H a = some o := fun _ _ h => (of_hide h).1
theorem Ext.refl : Ext Θ P H H := fun _ _ e => .inl e
theorem Ext.same (s : Same H H') : Ext Θ P H H' := fun a o e => .inl (s a o e)
theorem Ext.keep (x : Ext Θ P H H') {a : Addr} {o : HO} (e : H a = some o) (n : ∀ dx fs, o ≠ .ins Θ.bk dx fs) : H' a = some o := by
  rcases x a o e with q | ⟨_, dx, fs, _, _, q, _⟩
  · exact q
  · exact absurd q (n dx fs)
theorem Ext.tup (x : Ext Θ P H H') {a : Addr} {vs : List V} (e : H a = some (.tup vs)) : H' a = some (.tup vs) := x.keep e (fun _ _ z => nomatch z)
theorem Ext.lst (x : Ext Θ P H H') {a : Addr} {vs : List V} (e : H a = some (.lst vs)) : H' a = some (.lst vs) := x.keep e (fun _ _ z => nomatch z)
theorem Ext.there (x : Ext Θ P H H') {a : Addr} (e : H a ≠ none) : H' a ≠ none := by
  cases q : H a with
  | none => exact absurd q e
  | some o =>
    rcases x a o q with z | ⟨_, _, _, _, _, _, z, _⟩ <;> rw [z] <;> exact fun y => nomatch y
/-- the parts of H that G shows stay to be shown in G' -/
structure Shows (Θ : Th) (G H G' H' : Hp) : Prop where
  sub : ∀ a o, G a = some o → H a = some o
  ext : ∃ P, Ext Θ P H H'
  go : ∀ a o o', G a = some o → H' a = some o' → G' a = some o'
theorem Shows.keep {G' : Hp} (x : Shows Θ G H G' H') {a : Addr} {o : HO} (e : G a = some o) (n : ∀ dx fs, o ≠ .ins Θ.bk dx fs) : G' a = some o :=
  let ⟨_, y⟩ := x.ext
  x.go a o o e (y.keep (x.sub a o e) n)
theorem Shows.trio {G' : Hp} (x : Shows Θ G H G' H') {a : Addr} {ts : List (Nat × Nat × Nat)} (e : TrioTup G a ts) : TrioTup G' a ts := by
  obtain ⟨rs, h1, h2, h3⟩ := e
  exact ⟨rs, x.keep h1 (fun _ _ z => nomatch z), h2, fun i r t a b => x.keep (h3 i r t a b) (fun _ _ z => nomatch z)⟩
theorem Shows.fs {G' : Hp} (x : Shows Θ G H G' H') {fs : List (Str × V)} {b : Bk} (e : BookFs G fs b) : BookFs G' fs b := by
  obtain ⟨⟨a1, l1, h1⟩, ⟨a2, l2, h2⟩, k, ⟨a3, l3, o3, h3⟩, ln, nm⟩ := e
  exact ⟨⟨a1, l1, x.keep h1 (fun _ _ z => nomatch z)⟩, ⟨a2, l2, x.trio h2⟩, k, ⟨a3, l3, o3, x.keep h3 (fun _ _ z => nomatch z)⟩, ln, nm⟩
theorem kk_ne {f : Str} (h : f = "back" ∨ f = "barred" ∨ f = "kinds" ∨ f = "lets") : f ≠ "known_knit" := by
  rcases h with rfl | rfl | rfl | rfl <;> decide +kernel
theorem BookFs.other {fs fs' : List (Str × V)} {b : Bk} (e : BookFs H fs b) (h : ∀ f : Str, f ≠ "known_knit" → fs'.lookup f = fs.lookup f) (hn : fs'.map (·.1) = fs.map (·.1)) : BookFs H fs' b := by
  obtain ⟨⟨a1, l1, h1⟩, ⟨a2, l2, h2⟩, k, ⟨a3, l3, o3, h3⟩, ln, nm⟩ := e
  refine ⟨⟨a1, by rw [h _ (kk_ne (.inl rfl))]; exact l1, h1⟩, ⟨a2, by rw [h _ (kk_ne (.inr (.inl rfl)))]; exact l2, h2⟩, by rw [h _ (kk_ne (.inr (.inr (.inl rfl))))]; exact k, ⟨a3, by rw [h _ (kk_ne (.inr (.inr (.inr rfl))))]; exact l3, o3, h3⟩, ?_, hn.trans nm⟩
  have e := congrArg List.length hn
  rw [List.length_map, List.length_map] at e
  omega
theorem natV_inj {a b : Nat} (h : natV a = natV b) : a = b := by
  have := V.int.inj h
  omega
theorem map_natV_inj : ∀ {xs ys : List Nat}, xs.map natV = ys.map natV → xs = ys
  | [], [], _ => rfl
  | [], _ :: _, h => by simp at h
  | _ :: _, [], h => by simp at h
  | x :: xs, y :: ys, h => by
    simp only [List.map_cons, List.cons.injEq] at h
    rw [natV_inj h.1, map_natV_inj h.2]
theorem trioV_inj {s t : Nat × Nat × Nat} (h : trioV s = trioV t) : s = t := by
  obtain ⟨a, b, c⟩ := s
  obtain ⟨a', b', c'⟩ := t
  simp only [trioV, List.cons.injEq, and_true] at h
  rw [natV_inj h.1, natV_inj h.2.1, natV_inj h.2.2]
theorem map_ref_inj : ∀ {xs ys : List Addr}, xs.map V.ref = ys.map V.ref → xs = ys
  | [], [], _ => rfl
  | [], _ :: _, h => by simp at h
  | _ :: _, [], h => by simp at h
  | x :: xs, y :: ys, h => by
    simp only [List.map_cons, List.cons.injEq, V.ref.injEq] at h
    rw [h.1, map_ref_inj h.2]
theorem TrioTup.inj {a : Addr} {ts us : List (Nat × Nat × Nat)} (x : TrioTup H a ts) (y : TrioTup H a us) : ts = us := by
  obtain ⟨rs, h1, h2, h3⟩ := x
  obtain ⟨rs', g1, g2, g3⟩ := y
  rw [h1] at g1
  injection g1 with g1
  injection g1 with g1
  have := map_ref_inj g1
  subst this
  refine List.ext_getElem? fun i => ?_
  by_cases hi : i < rs.length
  · have e1 : ts[i]? = some (ts[i]'(by omega)) := List.getElem?_eq_getElem _
    have e2 : us[i]? = some (us[i]'(by omega)) := List.getElem?_eq_getElem _
    have q1 := h3 i _ _ (List.getElem?_eq_getElem hi) e1
    have q2 := g3 i _ _ (List.getElem?_eq_getElem hi) e2
    rw [q1] at q2
    injection q2 with q2
    injection q2 with q2
    rw [e1, e2, trioV_inj q2]
  · rw [List.getElem?_eq_none (by omega), List.getElem?_eq_none (by omega)]
theorem BookFs.inj {fs : List (Str × V)} {b b' : Bk} (x : BookFs H fs b) (y : BookFs H fs b') : b = b' := by
  obtain ⟨⟨a1, l1, h1⟩, ⟨a2, l2, h2⟩, _, _, _, _⟩ := x
  obtain ⟨⟨a1', l1', h1'⟩, ⟨a2', l2', h2'⟩, _, _, _, _⟩ := y
  rw [l1] at l1'; cases l1'
  rw [l2] at l2'; cases l2'
  rw [h1] at h1'
  injection h1' with h1'
  injection h1' with h1'
  have e1 := map_natV_inj h1'
  have e2 := h2.inj h2'
  obtain ⟨p, q⟩ := b
  obtain ⟨p', q'⟩ := b'
  exact congr (congrArg Bk.mk e1) e2
theorem sub_fs {fs : List (Str × V)} {b : Bk} (s : ∀ a o, G a = some o → H a = some o) (e : BookFs G fs b) : BookFs H fs b := by
  obtain ⟨⟨a1, l1, h1⟩, ⟨a2, l2, ⟨rs, z1, z2, z3⟩⟩, k, ⟨a3, l3, o3, h3⟩, ln, nm⟩ := e
  exact ⟨⟨a1, l1, s _ _ h1⟩, ⟨a2, l2, rs, s _ _ z1, z2, fun i r t a b => s _ _ (z3 i r t a b)⟩, k, ⟨a3, l3, o3, s _ _ h3⟩, ln, nm⟩
theorem Shows.ext_fs {G' : Hp} (x : Shows Θ G H G' H') {fs : List (Str × V)} {b : Bk} (e : BookFs H fs b) : BookFs H' fs b :=
  Shows.fs (G := H) (G' := H') ⟨fun _ _ e => e, x.ext, fun _ _ _ _ e => e⟩ e
mutual
theorem Den.shows {G' : Hp} (x : Shows Θ G H G' H') : ∀ {v : V} {d : D}, Den Θ G v d → Den Θ G' v d
  | _, _, .non => .non
  | _, _, .bl b => .bl b
  | _, _, .int i => .int i
  | _, _, .str s => .str s
  | _, _, .tup h hs => .tup (x.keep h (fun _ _ z => nomatch z)) (Dens.shows x hs)
  | _, _, .lst h hs => .lst (x.keep h (fun _ _ z => nomatch z)) (Dens.shows x hs)
  | _, _, .dk h hk hs => .dk (x.keep h (fun _ _ z => nomatch z)) hk (Dens.shows x hs)
  | _, _, .dt h hk hs => .dt (x.keep h (fun _ _ z => nomatch z)) hk (Dens.shows x hs)
  | _, _, .book h hb hk => by
    obtain ⟨P, y⟩ := x.ext
    rcases y _ _ (x.sub _ _ h) with q | ⟨_, dx, fs, fs', b', e, q, o1, o2, hb', hk'⟩
    · exact .book (x.go _ _ _ h q) (x.fs hb) hk
    · injection e with e1 e2 e3
      subst e2 e3
      have := ((x.ext_fs (sub_fs x.sub hb)).other o1 o2).inj (sub_fs hide_sub hb')
      subst this
      exact .book (x.go _ _ _ h q) ((x.fs hb).other o1 o2) hk'
  | _, _, .lets h => .lets (x.keep h (fun _ _ z => nomatch z))
  | _, _, .scr h => .scr (h.elim (fun z => .inl (z.elim (fun z => .inl (x.keep z (fun _ _ z => nomatch z))) fun ⟨o, z⟩ => .inr ⟨o, x.keep z (fun _ _ z => nomatch z)⟩)) .inr)
  | _, _, .obj => .obj
theorem Dens.shows {G' : Hp} (x : Shows Θ G H G' H') : ∀ {vs : List V} {ds : List D}, Dens Θ G vs ds → Dens Θ G' vs ds
  | _, _, .nil => .nil
  | _, _, .cons h hs => .cons (Den.shows x h) (Dens.shows x hs)
end
theorem Ext.shows (x : Ext Θ P H H') : Shows Θ H H H' H' := ⟨fun _ _ e => e, ⟨P, x⟩, fun _ _ _ _ e => e⟩
theorem Ext.showsP (x : Ext Θ P H H') : Shows Θ (hide P H) H (hide P H') H' := ⟨hide_sub, ⟨P, x⟩, fun _ _ _ h1 h2 => hide_of h2 (of_hide h1).2⟩
theorem shows_sub (s : ∀ a o, G a = some o → H a = some o) : Shows Θ G H H H := ⟨s, ⟨fun _ => False, .refl⟩, fun _ _ _ _ e => e⟩
theorem Den.ext (x : Ext Θ P H H') {v : V} {d : D} (h : Den Θ H v d) : Den Θ H' v d := h.shows x.shows
theorem Dens.ext (x : Ext Θ P H H') {v : List V} {d : List D} (h : Dens Θ H v d) : Dens Θ H' v d := h.shows x.shows
theorem Ext.trans (x : Ext Θ P H H') (y : Ext Θ P H' H'') : Ext Θ P H H'' := fun a o e => by
  rcases x a o e with q | ⟨np, dx, fs, fs', b, e1, q, o1, o2, hb, hk⟩
  · exact y a o q
  · rcases y a _ q with r | ⟨_, dx', gs, gs', b', e1', r, o1', o2', hb', hk'⟩
    · exact .inr ⟨np, dx, fs, fs', b, e1, r, o1, o2, y.showsP.fs hb, hk⟩
    · injection e1' with e2 e3 e4
      subst e3 e4
      exact .inr ⟨np, dx, fs, gs', b', e1, r, fun f hf => (o1' f hf).trans (o1 f hf), o2'.trans o2, hb', hk'⟩
theorem hide_mono (h : ∀ a, P' a → P a) : ∀ a o, hide P H a = some o → hide P' H a = some o := fun _ _ e => hide_of (of_hide e).1 fun z => (of_hide e).2 (h _ z)
/-- where less is hidden -/
theorem Ext.mono (x : Ext Θ P H H') (h : ∀ a, P' a → P a) : Ext Θ P' H H' := fun a o e => by
  rcases x a o e with q | ⟨np, dx, fs, fs', b, e1, q, o1, o2, hb, hk⟩
  · exact .inl q
  · exact .inr ⟨fun z => np (h _ z), dx, fs, fs', b, e1, q, o1, o2, sub_fs (hide_mono h) hb, hk⟩
/-- what is shown -/
theorem Ext.vis (x : Ext Θ P H H') : Ext Θ (fun _ => False) (hide P H) (hide P H') := fun a o e => by
  obtain ⟨e1, n⟩ := of_hide e
  rcases x a o e1 with q | ⟨np, dx, fs, fs', b, e1, q, o1, o2, hb, hk⟩
  · exact .inl (hide_of q n)
  · exact .inr ⟨fun z => z, dx, fs, fs', b, e1, hide_of q n, o1, o2, sub_fs (fun a o e => hide_of e fun z => z) hb, hk⟩
theorem Dens.len : ∀ {vs : List V} {ds : List D}, Dens Θ H vs ds → vs.length = ds.length
  | _, _, .nil => rfl
  | _, _, .cons _ t => by simp [Dens.len t]
theorem Dens.get : ∀ {vs : List V} {ds : List D} {i : Nat} {d : D}, Dens Θ H vs ds → ds[i]? = some d → ∃ v, vs[i]? = some v ∧ Den Θ H v d
  | _, _, _, _, .nil, e => by simp at e
  | _, _, 0, _, .cons h _, e => by simp at e; subst e; exact ⟨_, rfl, h⟩
  | _, _, i + 1, d, .cons _ t, e => by
    obtain ⟨v, h1, h2⟩ := Dens.get (i := i) (d := d) t (by simpa using e)
    exact ⟨v, by simpa using h1, h2⟩
theorem Dens.append : ∀ {vs ws : List V} {ds es : List D}, Dens Θ H vs ds → Dens Θ H ws es → Dens Θ H (vs ++ ws) (ds ++ es)
  | _, _, _, _, .nil, s => s
  | _, _, _, _, .cons r t, s => .cons r (Dens.append t s)
end
end Dn

namespace Dn
open PySem PySem.Spec L2
open PyProof.Rows hiding St
def Hd (B : Addr → Prop) (σ : St) (O : List Nat) (b : Addr) : Prop := B b ∨ ∃ i, i ∈ O ∧ σ[i]? = some (some (V.ref b))
/-- the heap that may be shown: without the addresses of B, and of the lists that the slots of O own -/
noncomputable abbrev hid (B : Addr → Prop) (σ : St) (O : List Nat) (H : Hp) : Hp := hide (Hd B σ O) H
open Classical in
noncomputable def cut (a : Addr) (G : Hp) : Hp := fun b => if b = a then none else G b

abbrev Rho := List (Option D)
inductive Res (α : Type) where
  | ok (a : α)
  | exc (c : Str) (p : List (Str × D))
  | bad
def Res.bind {α β : Type} (r : Res α) (f : α → Res β) : Res β :=
  match r with
  | .ok a => f a
  | .exc c p => .exc c p
  | .bad => .bad
theorem Res.bind_ok {α β : Type} (a : α) (f : α → Res β) : (Res.ok a).bind f = f a := rfl
theorem Res.bind_exc {α β : Type} (c : Str) (p : List (Str × D)) (f : α → Res β) : (Res.exc c p).bind f = .exc c p := rfl
theorem Res.bind_bad {α β : Type} (f : α → Res β) : (Res.bad).bind f = .bad := rfl

section
variable {Θ : Th} {B : Addr → Prop} {σ : St} {O : List Nat} {H H' H0 G : Hp} {a b : Addr} {o : HO}
theorem hid_of (h : H a = some o) (n : ¬ Hd B σ O a) : hid B σ O H a = some o := hide_of h n
theorem of_hid (h : hid B σ O H a = some o) : H a = some o ∧ ¬ Hd B σ O a := of_hide h
theorem hid_sub : ∀ a o, hid B σ O H a = some o → H a = some o := hide_sub
theorem cut_of (h : G b = some o) (n : b ≠ a) : cut a G b = some o := by
  unfold cut; rw [if_neg n]; exact h
theorem of_cut (h : cut a G b = some o) : G b = some o ∧ b ≠ a := by
  unfold cut at h
  split at h
  · cases h
  · rename_i n; exact ⟨h, n⟩
/-- a list (or dict) at a, its items shown in G -/
inductive OwnAt (Θ : Th) (G H : Hp) (a : Addr) : D → Prop where
  | lst {vs : List V} {ds : List D} : H a = some (.lst vs) → Dens Θ G vs ds → OwnAt Θ G H a (.lst ds)
  | dk {kvs : List (Key × V)} {es : List (Key × D)} : H a = some (.dK kvs) → kvs.map (·.1) = es.map (·.1) → Dens Θ G (kvs.map (·.2)) (es.map (·.2)) → OwnAt Θ G H a (.dk es)
  | dt {kvs : List (List Key × V)} {es : List (List Key × D)} : H a = some (.dT kvs) → kvs.map (·.1) = es.map (·.1) → Dens Θ G (kvs.map (·.2)) (es.map (·.2)) → OwnAt Θ G H a (.dt es)
theorem OwnAt.den {d : D} (x : OwnAt Θ G H a d) (ha : G a = H a) : Den Θ G (.ref a) d := by
  cases x with
  | lst h hs => exact .lst (ha.trans h) hs
  | dk h hk hs => exact .dk (ha.trans h) hk hs
  | dt h hk hs => exact .dt (ha.trans h) hk hs
theorem OwnAt.up {G' H' : Hp} {d : D} (x : OwnAt Θ G H a d) (hd : ∀ vs ds, Dens Θ G vs ds → Dens Θ G' vs ds) (ha : ∀ o, (∀ dx fs, o ≠ .ins Θ.bk dx fs) → H a = some o → H' a = some o) : OwnAt Θ G' H' a d := by
  cases x with
  | lst h hs => exact .lst (ha _ (fun _ _ z => nomatch z) h) (hd _ _ hs)
  | dk h hk hs => exact .dk (ha _ (fun _ _ z => nomatch z) h) hk (hd _ _ hs)
  | dt h hk hs => exact .dt (ha _ (fun _ _ z => nomatch z) h) hk (hd _ _ hs)
theorem OwnAt.there {d : D} (x : OwnAt Θ G H a d) : H a ≠ none := by
  cases x with
  | lst h hs => rw [h]; exact fun z => nomatch z
  | dk h _ hs => rw [h]; exact fun z => nomatch z
  | dt h _ hs => rw [h]; exact fun z => nomatch z

/-- the state: the slots stand for ρ; the slots of O own their lists; B: what a caller keeps for itself; H0: the heap at the entry -/
structure Stt (Θ : Th) (B : Addr → Prop) (H0 : Hp) (O : List Nat) (ρ : Rho) (σ : St) (H : Hp) : Prop where
  len : ρ.length = σ.length
  ext : Ext Θ B H0 H
  bex : ∀ b, B b → H b ≠ none
  val : ∀ (i : Nat) (d : D), i ∉ O → ρ[i]? = some (some d) → ∃ v, σ[i]? = some (some v) ∧ Den Θ (hid B σ O H) v d
  own : ∀ i, i ∈ O → ∃ a d, ρ[i]? = some (some d) ∧ σ[i]? = some (some (.ref a)) ∧ OwnAt Θ (hid B σ O H) H a d ∧ ¬ B a ∧ H0 a = none
  inj : ∀ (i j : Nat) (a : Addr), i ∈ O → j ∈ O → σ[i]? = some (some (.ref a)) → σ[j]? = some (some (.ref a)) → i = j

inductive Mode where
  | e | b | f
/-- what a value may be: shown whole (e); its items shown (b); a new list (f) -/
def PP (Θ : Th) (m : Mode) (B : Addr → Prop) (σ : St) (O : List Nat) (Hs H : Hp) (d : D) (v : V) : Prop :=
  match m with
  | .e => Den Θ (hid B σ O H) v d
  | .b => Den Θ (hid B σ O H) v d ∨ ∃ a, v = .ref a ∧ OwnAt Θ (hid B σ O H) H a d
  | .f => ∃ a, v = .ref a ∧ Hs a = none ∧ ¬ Hd B σ O a ∧ OwnAt Θ (cut a (hid B σ O H)) H a d

variable {P : Addr → Prop}
theorem shows_hid (x : Ext Θ P H H') : Shows Θ (hid B σ O H) H (hid B σ O H') H' := ⟨hid_sub, ⟨P, x⟩, fun a o o' h1 h2 => hid_of h2 (of_hid h1).2⟩
theorem shows_cut (x : Ext Θ P H H') : Shows Θ (cut a (hid B σ O H)) H (cut a (hid B σ O H')) H' := ⟨fun b o h => hid_sub _ _ (of_cut h).1, ⟨P, x⟩, fun b o o' h1 h2 => cut_of (hid_of h2 (of_hid (of_cut h1).1).2) (of_cut h1).2⟩
theorem shows_uncut : Shows Θ (cut a (hid B σ O H)) H (hid B σ O H) H := ⟨fun b o h => hid_sub _ _ (of_cut h).1, ⟨fun _ => False, .refl⟩, fun b o o' h1 h2 => hid_of h2 (of_hid (of_cut h1).1).2⟩
theorem shows_newcut (n : H a = none) (x : Ext Θ P H H') : Shows Θ (hid B σ O H) H (cut a (hid B σ O H')) H' :=
  ⟨hid_sub, ⟨P, x⟩, fun b o o' h1 h2 => cut_of (hid_of h2 (of_hid h1).2) (fun e => by rw [e] at h1; rw [(of_hid h1).1] at n; cases n)⟩
theorem PP.ext {m : Mode} {Hs : Hp} {d : D} {v : V} (x : Ext Θ P H H') (h : PP Θ m B σ O Hs H d v) : PP Θ m B σ O Hs H' d v := by
  cases m with
  | e => exact Den.shows (shows_hid x) h
  | b =>
    rcases h with h | ⟨a, e, h⟩
    · exact .inl (Den.shows (shows_hid x) h)
    · exact .inr ⟨a, e, h.up (fun _ _ => Dens.shows (shows_hid x)) fun o n q => x.keep q n⟩
  | f =>
    obtain ⟨a, e, n, nh, h⟩ := h
    exact ⟨a, e, n, nh, h.up (fun _ _ => Dens.shows (shows_cut x)) fun o n q => x.keep q n⟩
theorem PP.fe {Hs : Hp} {d : D} {v : V} (h : PP Θ .f B σ O Hs H d v) : PP Θ .e B σ O Hs H d v := by
  obtain ⟨a, e, n, nh, h⟩ := h
  subst e
  refine OwnAt.den (h.up (fun _ _ => Dens.shows shows_uncut) fun o _ q => q) ?_
  cases q : H a with
  | none => exact absurd q h.there
  | some o => exact hid_of q nh
theorem PP.eb {Hs : Hp} {d : D} {v : V} (h : PP Θ .e B σ O Hs H d v) : PP Θ .b B σ O Hs H d v := .inl h
theorem PP.fb {Hs : Hp} {d : D} {v : V} (h : PP Θ .f B σ O Hs H d v) : PP Θ .b B σ O Hs H d v := h.fe.eb

/-- an exception of the class called c, with the attributes p -/
def ExcOk (Θ : Th) (mg : Str → Option Value) (H : Hp) (c : Str) (p : List (Str × D)) (cls : Value) (dd : Option Addr) : Prop :=
  mg c = some cls ∧ match p with
    | [] => dd = none
    | _ :: _ => ∃ d fs, dd = some d ∧ H d = some (.xd fs) ∧ ∀ f x, p.lookup f = some x → ∃ v, fs.lookup f = some v ∧ Den Θ H v x

/-- a run's results -/
def Aft (Θ : Th) (mg : Str → Option Value) (W : WX) (m : Mode) (B : Addr → Prop) (H0 : Hp) (O : List Nat) (ρ : Rho) (σ : St) (Hs H : Hp) (r : Res D) (Q : VK) : Prop :=
  match r with
  | .ok d => ∀ v H', Ext Θ (Hd B σ O) H H' → Stt Θ B H0 O ρ σ H' → PP Θ m B σ O Hs H' d v → Q v H'
  | .exc c p => ∀ cls dd H', Ext Θ (Hd B σ O) H H' → Stt Θ B H0 O ρ σ H' → ExcOk Θ mg H' c p cls dd → W cls dd σ H'
  | .bad => False
/-- the reading of an expression that stands for den -/
def rd (Θ : Th) (mg : Str → Option Value) (W : WX) (m : Mode) (O : List Nat) (den : Rho → Res D) : TE := fun σ H Q =>
  ∃ B H0 ρ, Stt Θ B H0 O ρ σ H ∧ Aft Θ mg W m B H0 O ρ σ H H (den ρ) Q
/-- .. of an argument list -/
def AftA (Θ : Th) (mg : Str → Option Value) (W : WX) (ms : List Mode) (B : Addr → Prop) (H0 : Hp) (O : List Nat) (ρ : Rho) (σ : St) (Hs H : Hp) (r : Res (List D)) (Q : List V → Hp → Prop) : Prop :=
  match r with
  | .ok ds => ∀ vs H', Ext Θ (Hd B σ O) H H' → Stt Θ B H0 O ρ σ H' → vs.length = ds.length → ds.length = ms.length → (∀ (i : Nat) m d v, ms[i]? = some m → ds[i]? = some d → vs[i]? = some v → PP Θ m B σ O Hs H' d v) → Q vs H'
  | .exc c p => ∀ cls dd H', Ext Θ (Hd B σ O) H H' → Stt Θ B H0 O ρ σ H' → ExcOk Θ mg H' c p cls dd → W cls dd σ H'
  | .bad => False
def rdA (Θ : Th) (mg : Str → Option Value) (W : WX) (ms : List Mode) (O : List Nat) (den : Rho → Res (List D)) : TA := fun σ H Q =>
  ∃ B H0 ρ, Stt Θ B H0 O ρ σ H ∧ AftA Θ mg W ms B H0 O ρ σ H H (den ρ) Q
/-- .. of a test -/
def rdT (Θ : Th) (mg : Str → Option Value) (W : WX) (O : List Nat) (den : Rho → Res Bool) : TT := fun σ H Q =>
  ∃ B H0 ρ, Stt Θ B H0 O ρ σ H ∧ match den ρ with
    | .ok b => ∀ H', Ext Θ (Hd B σ O) H H' → Stt Θ B H0 O ρ σ H' → Q b H'
    | .exc c p => ∀ cls dd H', Ext Θ (Hd B σ O) H H' → Stt Θ B H0 O ρ σ H' → ExcOk Θ mg H' c p cls dd → W cls dd σ H'
    | .bad => False

/-- the state stays where books alone change -/
theorem Stt.up {ρ : Rho} (s : Stt Θ B H0 O ρ σ H) (x : Ext Θ (Hd B σ O) H H') : Stt Θ B H0 O ρ σ H' where
  len := s.len
  ext := s.ext.trans (x.mono fun _ z => .inl z)
  bex := fun b hb => x.there (s.bex b hb)
  val := fun i d h1 h2 => let ⟨v, e, q⟩ := s.val i d h1 h2; ⟨v, e, Den.shows (shows_hid x) q⟩
  own := fun i hi => let ⟨a, d, e1, e2, q, nb, n0⟩ := s.own i hi; ⟨a, d, e1, e2, q.up (fun _ _ => Dens.shows (shows_hid x)) (fun o n z => x.keep z n), nb, n0⟩
  inj := s.inj
theorem Stt.fresh {ρ : Rho} (s : Stt Θ B H0 O ρ σ H) (n : H a = none) : ¬ Hd B σ O a := by
  rintro (h | ⟨i, hi, e⟩)
  · exact s.bex a h n
  · obtain ⟨a', d, _, e2, q, _⟩ := s.own i hi
    rw [e] at e2
    cases e2
    exact q.there n
end

/-- what a derivation stands in: the context, what does not change, the wish for exceptions -/
structure Ctx where
  X : Cx
  Θ : Th
  W : WX
  fr : Bool
  lv : Nat
  hK : Θ.K = X.K
  calm : X.calm = true
  tk : Takes X W
  po : PassesOwn (model X.prog X.w) X.A X.env X.xe
  nd : X.N.Nodup
  room : Room lv X.A
theorem Ctx.units (C : Ctx) : C.X.A.units + 200 < cLine := by have := C.room.un; omega
abbrev VM (C : Ctx) (m : Mode) (O : List Nat) (e : Expr) (den : Rho → Res D) : Prop := PE C.X e (rd C.Θ C.X.mg C.W m O den)
abbrev VT (C : Ctx) (O : List Nat) (e : Expr) (den : Rho → Res Bool) : Prop := PT C.X e (rdT C.Θ C.X.mg C.W O den)
abbrev VA (C : Ctx) (ms : List Mode) (O : List Nat) (es : List Expr) (den : Rho → Res (List D)) : Prop := PA C.X es (rdA C.Θ C.X.mg C.W ms O den)

theorem PE.wk {X : Cx} {e : Expr} {t t' : TE} (h : PE X e t) (w : ∀ σ H Q, t' σ H Q → t σ H Q) : PE X e t' := ⟨fun pins s σ H Q I q => h.run pins s σ H Q I (w _ _ _ q)⟩
theorem PT.wk {X : Cx} {e : Expr} {t t' : TT} (h : PT X e t) (w : ∀ σ H Q, t' σ H Q → t σ H Q) : PT X e t' := ⟨fun pins s σ H Q I q => h.run pins s σ H Q I (w _ _ _ q)⟩
theorem PA.wk {X : Cx} {e : List Expr} {t t' : TA} (h : PA X e t) (w : ∀ σ H Q, t' σ H Q → t σ H Q) : PA X e t' := ⟨fun pos pins s σ H Q I q => h.run pos pins s σ H Q I (w _ _ _ q)⟩

section
variable {C : Ctx} {m m1 m2 : Mode} {O : List Nat} {e a b : Expr} {den da db : Rho → Res D} {pos : Pos}
theorem VM.cvt (h : VM C m1 O e den) (w : ∀ {B σ Hs H d v}, PP C.Θ m1 B σ O Hs H d v → PP C.Θ m2 B σ O Hs H d v) : VM C m2 O e den := PE.wk h fun σ H Q ⟨B, H0, ρ, s, q⟩ => ⟨B, H0, ρ, s, by
  generalize den ρ = r at q ⊢
  cases r with
  | ok d => exact fun v H' x s' p => q v H' x s' (w p)
  | exc c p => exact q
  | bad => exact q⟩
theorem VM.eb (h : VM C .e O e den) : VM C .b O e den := h.cvt PP.eb
theorem VM.fe (h : VM C .f O e den) : VM C .e O e den := h.cvt PP.fe
theorem VM.fb (h : VM C .f O e den) : VM C .b O e den := h.cvt PP.fb

/-! ### names and constants -/
def dVar (i : Nat) : Rho → Res D := fun ρ => match ρ[i]? with
  | some (some d) => .ok d
  | _ => .bad
def dC (d : D) : Rho → Res D := fun _ => .ok d
theorem ve_var {i : Nat} {x : Str} (hi : i ∉ O := by decide) (hN : C.X.N[i]? = some x := by rfl) (hv : Vis C.X.env.scope x := by first | exact Or.inl rfl | exact Or.inr (Or.inl rfl) | exact Or.inr (Or.inr rfl)) (hd : (x == ("__debug__" : Str)) = false := by decide) (hcd : (x == ("__classdict__" : Str)) = false := by decide) :
    VM C .e O (.Name x pos) (dVar i) := PE.wk (pe_var hN hv hd hcd) fun σ H Q ⟨B, H0, ρ, s, q⟩ => by
  unfold dVar at q
  split at q
  · rename_i d hd
    obtain ⟨v, e1, p⟩ := s.val i d hi hd
    exact ⟨v, e1, q v H .refl s p⟩
  · exact q.elim
theorem vb_own {i : Nat} {x : Str} (hi : i ∈ O := by decide) (hN : C.X.N[i]? = some x := by rfl) (hv : Vis C.X.env.scope x := by first | exact Or.inl rfl | exact Or.inr (Or.inl rfl) | exact Or.inr (Or.inr rfl)) (hd : (x == ("__debug__" : Str)) = false := by decide) (hcd : (x == ("__classdict__" : Str)) = false := by decide) :
    VM C .b O (.Name x pos) (dVar i) := PE.wk (pe_var hN hv hd hcd) fun σ H Q ⟨B, H0, ρ, s, q⟩ => by
  obtain ⟨a, d, e1, e2, p, _, _⟩ := s.own i hi
  unfold dVar at q
  rw [e1] at q
  exact ⟨.ref a, e2, q _ H .refl s (.inr ⟨a, rfl, p⟩)⟩
theorem ve_const {v : V} {d : D} (h : PE C.X e (tC v)) (hd : ∀ G, Den C.Θ G v d) : VM C .e O e (dC d) := PE.wk h fun σ H Q ⟨B, H0, ρ, s, q⟩ => q v H .refl s (hd _)
theorem ve_int {i j} : VM C .e O (.Constant (.int i) j pos) (dC (.int i)) := ve_const pe_int fun _ => .int _
theorem ve_bl {i j} : VM C .e O (.Constant (.bool i) j pos) (dC (.bl i)) := ve_const pe_bl fun _ => .bl _
theorem ve_non {j} : VM C .e O (.Constant .none j pos) (dC .non) := ve_const pe_non fun _ => .non
theorem ve_str {x j} : VM C .e O (.Constant (.str x) j pos) (dC (.str x)) := ve_const pe_str fun _ => .str _
/-- a module's constant int or text -/
theorem ve_gint {x : Str} {i : Int} {t : Tok} (hm : C.X.mg x = some (.int i t)) (hg : Gl C.X x := by rfl) (hd : (x == ("__debug__" : Str)) = false := by decide) : VM C .e O (.Name x pos) (dC (.int i)) := ve_const (pe_glob (v := V.int i) hg hm ⟨t, rfl⟩ hd) fun _ => .int _
theorem ve_gstr {x : Str} {i : Str} {t : Tok} (hm : C.X.mg x = some (.str i t)) (hg : Gl C.X x := by rfl) (hd : (x == ("__debug__" : Str)) = false := by decide) : VM C .e O (.Name x pos) (dC (.str i)) := ve_const (pe_glob (v := V.str i) hg hm ⟨t, rfl⟩ hd) fun _ => .str _

/-! ### operators -/
/-- an operator's rule by deep values -/
def OpD (C : Ctx) (ma mb m : Mode) (O : List Nat) (f : D → D → Res D) (r : R2) : Prop :=
  ∀ {B H0 ρ σ Hs H d1 d2 v1 v2 Q}, (∀ a, H a = none → Hs a = none) → Stt C.Θ B H0 O ρ σ H → PP C.Θ ma B σ O Hs H d1 v1 → PP C.Θ mb B σ O Hs H d2 v2 → Aft C.Θ C.X.mg C.W m B H0 O ρ σ Hs H (f d1 d2) Q → r v1 v2 H Q
def UnD (C : Ctx) (ma m : Mode) (O : List Nat) (f : D → Res D) (r : V → Hp → VK → Prop) : Prop :=
  ∀ {B H0 ρ σ Hs H d1 v1 Q}, (∀ a, H a = none → Hs a = none) → Stt C.Θ B H0 O ρ σ H → PP C.Θ ma B σ O Hs H d1 v1 → Aft C.Θ C.X.mg C.W m B H0 O ρ σ Hs H (f d1) Q → r v1 H Q
theorem Ext.new {Θ : Th} {P : Addr → Prop} {H H' : Hp} (x : Ext Θ P H H') : ∀ a, H' a = none → H a = none := fun a n => by
  cases q : H a with
  | none => rfl
  | some o => exact absurd n (x.there (by rw [q]; exact fun z => nomatch z))
def dBin (f : D → D → Res D) (da db : Rho → Res D) : Rho → Res D := fun ρ => (da ρ).bind fun x => (db ρ).bind fun y => f x y
def dUn (f : D → Res D) (da : Rho → Res D) : Rho → Res D := fun ρ => (da ρ).bind fun x => f x
/-- going on behind a part -/
theorem Aft.seq {Θ : Th} {mg : Str → Option Value} {W : WX} {m : Mode} {B : Addr → Prop} {H0 : Hp} {O : List Nat} {ρ : Rho} {σ : St} {Hs H H' : Hp} {r : Res D} {Q : VK} (x : Ext Θ (Hd B σ O) H H') (h : Aft Θ mg W m B H0 O ρ σ Hs H r Q) : Aft Θ mg W m B H0 O ρ σ Hs H' r Q := by
  cases r with
  | ok d => exact fun v H'' y s p => h v H'' (x.trans y) s p
  | exc c p => exact fun cls dd H'' y s e => h cls dd H'' (x.trans y) s e
  | bad => exact h
theorem PP.hs {Θ : Th} {m : Mode} {B : Addr → Prop} {σ : St} {O : List Nat} {Hs Hs' H : Hp} {d : D} {v : V} (n : ∀ a, Hs' a = none → Hs a = none) (h : PP Θ m B σ O Hs' H d v) : PP Θ m B σ O Hs H d v := by
  cases m with
  | e => exact h
  | b => exact h
  | f => obtain ⟨a, e, na, r⟩ := h; exact ⟨a, e, n a na, r⟩
theorem bin_rd {f : D → D → Res D} {r : R2} {ma mb : Mode} (hD : OpD C ma mb m O f r) {σ : St} {H : Hp} {Q : VK} (h : rd C.Θ C.X.mg C.W m O (dBin f da db) σ H Q) : tOp r (rd C.Θ C.X.mg C.W ma O da) (rd C.Θ C.X.mg C.W mb O db) σ H Q := by
  obtain ⟨B, H0, ρ, s, q⟩ := h
  refine ⟨B, H0, ρ, s, ?_⟩
  unfold dBin at q
  generalize da ρ = ra at q ⊢
  cases ra with
  | bad => exact q.elim
  | exc c p => exact q
  | ok d1 =>
    intro v1 H1 x1 s1 p1
    refine ⟨B, H0, ρ, s1, ?_⟩
    rw [Res.bind_ok] at q
    generalize db ρ = rb at q ⊢
    cases rb with
    | bad => exact q.elim
    | exc c p => exact Aft.seq (m := m) x1 q
    | ok d2 =>
      intro v2 H2 x2 s2 p2
      exact hD (fun a n => x1.new a (x2.new a n)) s2 (p1.ext x2) (PP.hs (fun a n => x1.new a n) p2) (Aft.seq (x1.trans x2) q)
theorem un_rd {f : D → Res D} {r : V → Hp → VK → Prop} {ma : Mode} (hD : UnD C ma m O f r) {σ : St} {H : Hp} {Q : VK} (h : rd C.Θ C.X.mg C.W m O (dUn f da) σ H Q) : tUn r (rd C.Θ C.X.mg C.W ma O da) σ H Q := by
  obtain ⟨B, H0, ρ, s, q⟩ := h
  refine ⟨B, H0, ρ, s, ?_⟩
  unfold dUn at q
  generalize da ρ = ra at q ⊢
  cases ra with
  | bad => exact q.elim
  | exc c p => exact q
  | ok d1 =>
    intro v1 H1 x1 s1 p1
    exact hD (fun a n => x1.new a n) s1 p1 (Aft.seq x1 q)
theorem ve_op {op : Operator} {f : D → D → Res D} {r : R2} {ma mb : Mode} (ho : OpR C.X (binaryOp op) r) (hD : OpD C ma mb m O f r) (ha : VM C ma O a da) (hb : VM C mb O b db) : VM C m O (.BinOp a op b pos) (dBin f da db) :=
  PE.wk (pe_op ho ha hb) fun _ _ _ => bin_rd hD
theorem ve_un {op : UnaryOp} {f : D → Res D} {r : V → Hp → VK → Prop} {ma : Mode} (ho : UnR C.X (unaryOp op) r) (hD : UnD C ma m O f r) (ha : VM C ma O a da) : VM C m O (.UnaryOp op a pos) (dUn f da) :=
  PE.wk (pe_un ho ha) fun _ _ _ => un_rd hD
theorem ve_cmp {op : CmpOp} {f : D → D → Res D} {r : R2} {ma mb : Mode} (ho : OpR C.X (compareOp op) r) (hD : OpD C ma mb m O f r) (ha : VM C ma O a da) (hb : VM C mb O b db) (hm : behindInMarks op b = false := by first | exact nomark _ | rfl) : VM C m O (.Compare a [op] [b] pos) (dBin f da db) :=
  PE.wk (pe_cmpR ho ha hb hm) fun _ _ _ => bin_rd hD
/-- a bool's test -/
def dTst (da : Rho → Res D) : Rho → Res Bool := fun ρ => (da ρ).bind fun x => match x with
  | .bl b => .ok b
  | _ => .bad
theorem vt_cmp {op : CmpOp} {f : D → D → Res D} {r : R2} {ma mb : Mode} (ho : OpR C.X (compareOp op) r) (hD : OpD C ma mb .e O f r) (ha : VM C ma O a da) (hb : VM C mb O b db) (hm : behindInMarks op b = false := by first | exact nomark _ | rfl) : VT C O (.Compare a [op] [b] pos) (dTst (dBin f da db)) :=
  PT.wk (pt_cmpR ho ha hb hm) fun σ H Q h => by
    refine bin_rd hD ?_
    obtain ⟨B, H0, ρ, s, q⟩ := h
    refine ⟨B, H0, ρ, s, ?_⟩
    unfold dTst at q
    generalize dBin f da db ρ = ra at q ⊢
    cases ra with
    | bad => exact q.elim
    | exc c p => exact q
    | ok d =>
      intro v H' x s' p
      cases d with
      | bl k =>
        have p : Den _ _ _ _ := p
        cases p with
        | bl => exact ⟨k, rfl, q H' x s'⟩
      | _ => exact q.elim
end
end Dn

namespace Dn
open PySem PySem.Spec L2
open PyProof.Rows hiding St

mutual
/-- numbers, flags, texts, None, tuples and lists of these -/
def pl : D → Bool
  | .non => true
  | .bl _ => true
  | .int _ => true
  | .str _ => true
  | .tup xs => pls xs
  | .lst xs => pls xs
  | .dk _ => false
  | .dt _ => false
  | .book _ => false
  | .lets _ => false
  | .scr _ => false
  | .obj _ => false
def pls : List D → Bool
  | [] => true
  | x :: xs => pl x && pls xs
end
mutual
/-- how deep -/
def dep : D → Nat
  | .tup xs => deps xs + 1
  | .lst xs => deps xs + 1
  | _ => 0
def deps : List D → Nat
  | [] => 0
  | x :: xs => max (dep x) (deps xs)
end
mutual
theorem toP_plain : ∀ d : D, pl d = true → (toP d).plain = true
  | .non, _ => rfl
  | .bl _, _ => rfl
  | .int _, _ => rfl
  | .str _, _ => rfl
  | .tup xs, h => by simp only [toP, PyData.plain]; exact toPs_plain xs (by simpa [pl] using h)
  | .lst xs, h => by simp only [toP, PyData.plain]; exact toPs_plain xs (by simpa [pl] using h)
  | .dk _, h => by simp [pl] at h
  | .dt _, h => by simp [pl] at h
  | .book _, h => by simp [pl] at h
  | .lets _, h => by simp [pl] at h
  | .scr _, h => by simp [pl] at h
  | .obj _, h => by simp [pl] at h
theorem toPs_plain : ∀ ds : List D, pls ds = true → PyData.plainAll (toPs ds) = true
  | [], _ => by simp [toPs, PyData.plainAll]
  | d :: ds, h => by
    simp only [pls, Bool.and_eq_true] at h
    simp [toPs, PyData.plainAll, toP_plain d h.1, toPs_plain ds h.2]
end
mutual
theorem toP_dep : ∀ d : D, pl d = true → (toP d).depth = dep d
  | .non, _ => by simp [toP, PyData.depth, dep]
  | .bl _, _ => by simp [toP, PyData.depth, dep]
  | .int _, _ => by simp [toP, PyData.depth, dep]
  | .str _, _ => by simp [toP, PyData.depth, dep]
  | .tup xs, h => by simp only [toP, PyData.depth, dep]; rw [toPs_dep xs (by simpa [pl] using h)]
  | .lst xs, h => by simp only [toP, PyData.depth, dep]; rw [toPs_dep xs (by simpa [pl] using h)]
  | .dk _, h => by simp [pl] at h
  | .dt _, h => by simp [pl] at h
  | .book _, h => by simp [pl] at h
  | .lets _, h => by simp [pl] at h
  | .scr _, h => by simp [pl] at h
  | .obj _, h => by simp [pl] at h
theorem toPs_dep : ∀ ds : List D, pls ds = true → PyData.depthAll (toPs ds) = deps ds
  | [], _ => by simp [toPs, PyData.depthAll, deps]
  | d :: ds, h => by
    simp only [pls, Bool.and_eq_true] at h
    simp [toPs, PyData.depthAll, deps, toP_dep d h.1, toPs_dep ds h.2]
end
mutual
theorem toP_inj : ∀ d e : D, pl d = true → pl e = true → toP d = toP e → d = e
  | .non, e, _, he, q => by cases e <;> simp [toP, pl] at q he <;> rfl
  | .bl _, e, _, he, q => by cases e <;> simp [toP, pl] at q he; rw [q]
  | .int _, e, _, he, q => by cases e <;> simp [toP, pl] at q he; rw [q]
  | .str _, e, _, he, q => by cases e <;> simp [toP, pl] at q he; rw [q]
  | .tup xs, e, h, he, q => by
    cases e with
    | tup ys => simp only [toP, PyData.tuple.injEq, pl] at q h he; rw [toPs_inj xs ys h he q]
    | _ => simp [toP] at q
  | .lst xs, e, h, he, q => by
    cases e with
    | lst ys => simp only [toP, PyData.list.injEq, pl] at q h he; rw [toPs_inj xs ys h he q]
    | _ => simp [toP] at q
  | .dk _, _, h, _, _ => by simp [pl] at h
  | .dt _, _, h, _, _ => by simp [pl] at h
  | .book _, _, h, _, _ => by simp [pl] at h
  | .lets _, _, h, _, _ => by simp [pl] at h
  | .scr _, _, h, _, _ => by simp [pl] at h
  | .obj _, _, h, _, _ => by simp [pl] at h
theorem toPs_inj : ∀ ds es : List D, pls ds = true → pls es = true → toPs ds = toPs es → ds = es
  | [], es, _, _, q => by
    cases es with
    | nil => rfl
    | cons _ _ => simp [toPs] at q
  | d :: ds, es, h, he, q => by
    cases es with
    | nil => simp [toPs] at q
    | cons e es =>
      simp only [toPs, List.cons.injEq, pls, Bool.and_eq_true] at q h he
      rw [toP_inj d e h.1 he.1 q.1, toPs_inj ds es h.2 he.2 q.2]
end

section
variable {Θ : Th} {B : Addr → Prop} {σ : L2.St} {O : List Nat} {Hs H G : Hp} {v : V} {d : D} {m : Mode}
theorem SqT.at {K : PySem.W.Frag} {a : Addr} {vs : List V} (h : H a = some (.tup vs)) : SqT K H a vs := .inl (.inl h)
theorem SqL.at {K : PySem.W.Frag} {a : Addr} {vs : List V} (h : H a = some (.lst vs)) : SqL K H a vs := .inl (.inl h)
mutual
theorem Den.dp {K : PySem.W.Frag} (s : ∀ a o, G a = some o → H a = some o) : ∀ {v : V} {d : D}, Den Θ G v d → pl d = true → Dp K H v (toP d)
  | _, _, .non, _ => .non
  | _, _, .bl b, _ => .bl b
  | _, _, .int i, _ => .int i
  | _, _, .str x, _ => .str x
  | _, _, .tup h hs, p => by simp only [toP]; exact .tup (SqT.at (s _ _ h)) (Dens.dp s hs (by simpa [pl] using p))
  | _, _, .lst h hs, p => by simp only [toP]; exact .lst (SqL.at (s _ _ h)) (Dens.dp s hs (by simpa [pl] using p))
  | _, _, .dk _ _ _, p => by simp [pl] at p
  | _, _, .dt _ _ _, p => by simp [pl] at p
  | _, _, .book _ _ _, p => by simp [pl] at p
  | _, _, .lets _, p => by simp [pl] at p
  | _, _, .scr _, p => by simp [pl] at p
  | _, _, .obj, p => by simp [pl] at p
theorem Dens.dp {K : PySem.W.Frag} (s : ∀ a o, G a = some o → H a = some o) : ∀ {vs : List V} {ds : List D}, Dens Θ G vs ds → pls ds = true → DpAll K H vs (toPs ds)
  | _, _, .nil, _ => by simp only [toPs]; exact .nil
  | _, _, .cons h hs, p => by
    simp only [pls, Bool.and_eq_true] at p
    simp only [toPs]
    exact .cons (Den.dp s h p.1) (Dens.dp s hs p.2)
end
theorem cut_sub {a : Addr} : ∀ b o, cut a G b = some o → G b = some o := fun _ _ h => (of_cut h).1
/-- every mode gives mode b -/
theorem PP.b (h : PP Θ m B σ O Hs H d v) : PP Θ .b B σ O Hs H d v := by
  cases m with
  | e => exact PP.eb h
  | b => exact h
  | f => exact PP.fb h
theorem PP.dp {K : PySem.W.Frag} (hp : PP Θ m B σ O Hs H d v) (p : pl d = true) : Dp K H v (toP d) := by
  rcases hp.b with h | ⟨a, rfl, h⟩
  · exact Den.dp hid_sub h p
  · cases h with
    | lst h hs => simp only [toP]; exact .lst (SqL.at h) (Dens.dp hid_sub hs (by simpa [pl] using p))
    | dk _ _ _ => simp [pl] at p
    | dt _ _ _ => simp [pl] at p
theorem PP.int {i : Int} (hp : PP Θ m B σ O Hs H (.int i) v) : v = .int i := by
  rcases hp.b with h | ⟨a, rfl, h⟩
  · cases h; rfl
  · cases h
theorem PP.bl {i : Bool} (hp : PP Θ m B σ O Hs H (.bl i) v) : v = .bl i := by
  rcases hp.b with h | ⟨a, rfl, h⟩
  · cases h; rfl
  · cases h
theorem PP.str {i : Str} (hp : PP Θ m B σ O Hs H (.str i) v) : v = .str i := by
  rcases hp.b with h | ⟨a, rfl, h⟩
  · cases h; rfl
  · cases h
theorem PP.non (hp : PP Θ m B σ O Hs H .non v) : v = .non := by
  rcases hp.b with h | ⟨a, rfl, h⟩
  · cases h; rfl
  · cases h
theorem PP.tup {ds : List D} (hp : PP Θ m B σ O Hs H (.tup ds) v) : ∃ a vs, v = .ref a ∧ H a = some (.tup vs) ∧ Dens Θ (hid B σ O H) vs ds := by
  rcases hp.b with h | ⟨a, rfl, h⟩
  · cases h with
    | tup h hs => exact ⟨_, _, rfl, hid_sub _ _ h, hs⟩
  · cases h
theorem PP.te {ds : List D} (hp : PP Θ m B σ O Hs H (.tup ds) v) : PP Θ .e B σ O Hs H (.tup ds) v := by
  rcases hp.b with h | ⟨a, rfl, h⟩
  · exact h
  · cases h
theorem PP.lst {ds : List D} (hp : PP Θ m B σ O Hs H (.lst ds) v) : ∃ a vs, v = .ref a ∧ H a = some (.lst vs) ∧ Dens Θ (hid B σ O H) vs ds := by
  rcases hp.b with h | ⟨a, rfl, h⟩
  · cases h with
    | lst h hs => exact ⟨_, _, rfl, hid_sub _ _ h, hs⟩
  · cases h with
    | lst h hs => exact ⟨_, _, rfl, h, hs⟩
theorem PP.scr {ns : List Int} (hp : PP Θ m B σ O Hs H (.scr ns) v) : ∃ a, v = .ref a ∧ SqL Θ.K H a (ns.map V.int) := by
  rcases hp.b with h | ⟨a, rfl, h⟩
  · cases h with
    | scr h => exact ⟨_, rfl, h.elim (fun z => .inl (z.elim (fun z => .inl (hid_sub _ _ z)) fun ⟨o, z⟩ => .inr ⟨o, hid_sub _ _ z⟩)) .inr⟩
  · cases h
theorem PP.dk {es : List (Key × D)} (hp : PP Θ m B σ O Hs H (.dk es) v) : ∃ a kvs, v = .ref a ∧ H a = some (.dK kvs) ∧ kvs.map (·.1) = es.map (·.1) ∧ Dens Θ (hid B σ O H) (kvs.map (·.2)) (es.map (·.2)) := by
  rcases hp.b with h | ⟨a, rfl, h⟩
  · cases h with
    | dk h hk hs => exact ⟨_, _, rfl, hid_sub _ _ h, hk, hs⟩
  · cases h with
    | dk h hk hs => exact ⟨_, _, rfl, h, hk, hs⟩
theorem PP.dt {es : List (List Key × D)} (hp : PP Θ m B σ O Hs H (.dt es) v) : ∃ a kvs, v = .ref a ∧ H a = some (.dT kvs) ∧ kvs.map (·.1) = es.map (·.1) ∧ Dens Θ (hid B σ O H) (kvs.map (·.2)) (es.map (·.2)) := by
  rcases hp.b with h | ⟨a, rfl, h⟩
  · cases h with
    | dt h hk hs => exact ⟨_, _, rfl, hid_sub _ _ h, hk, hs⟩
  · cases h with
    | dt h hk hs => exact ⟨_, _, rfl, h, hk, hs⟩
theorem PP.book {b : Bk} (hp : PP Θ m B σ O Hs H (.book b) v) : ∃ a dx fs, v = .ref a ∧ H a = some (.ins Θ.bk dx fs) ∧ BookFs (hid B σ O H) fs b ∧ KvOk Θ fs b := by
  rcases hp.b with h | ⟨a, rfl, h⟩
  · cases h with
    | book h hb hk => exact ⟨_, _, _, rfl, hid_sub _ _ h, hb, hk⟩
  · cases h
theorem PP.lets {b : Bk} (hp : PP Θ m B σ O Hs H (.lets b) v) : ∃ a o, v = .ref a ∧ H a = some (.frz o (.dT (letsKV b))) := by
  rcases hp.b with h | ⟨a, rfl, h⟩
  · cases h with
    | lets h => exact ⟨_, _, rfl, hid_sub _ _ h⟩
  · cases h
end

theorem Aft.ite {Θ : Th} {mg : Str → Option Value} {W : WX} {m : Mode} {B : Addr → Prop} {H0 : Hp} {O : List Nat} {ρ : Rho} {σ : L2.St} {Hs H : Hp} {r : Res D} {Q : VK} {c : Prop} [Decidable c] (h : Aft Θ mg W m B H0 O ρ σ Hs H (if c then r else .bad) Q) : c ∧ Aft Θ mg W m B H0 O ρ σ Hs H r Q := by
  by_cases z : c
  · rw [if_pos z] at h; exact ⟨z, h⟩
  · rw [if_neg z] at h; exact h.elim
section
variable {C : Ctx} {m ma mb : Mode} {O : List Nat} {e a b : Expr} {den da db : Rho → Res D} {pos : Pos}
variable {B : Addr → Prop} {H0 Hs H : Hp} {ρ : Rho} {σ : L2.St} {d d1 d2 : D} {v1 v2 : V} {Q : VK}
/-- handing back something that is no new object -/
theorem Aft.val {W : WX} {Θ : Th} {mg : Str → Option Value} {v : V} (s : Stt Θ B H0 O ρ σ H) (h : Aft Θ mg W m B H0 O ρ σ Hs H (.ok d) Q) (p : PP Θ m B σ O Hs H d v) : Q v H := h v H .refl s p
theorem same_new {a : Addr} {o : HO} (n : H a = none) : Same H (upd H a o) := fun b u e => by rw [upd_ne (ne_of_none e n)]; exact e
/-- a new tuple -/
theorem Aft.newT {W : WX} {Θ : Th} {mg : Str → Option Value} {p : Addr} {vs : List V} {ds : List D} (s : Stt Θ B H0 O ρ σ H) (n : H p = none) (hs : Dens Θ (hid B σ O H) vs ds) (h : Aft Θ mg W .e B H0 O ρ σ Hs H (.ok (.tup ds)) Q) : Q (.ref p) (upd H p (.tup vs)) := by
  have x : Ext Θ (Hd B σ O) H (upd H p (.tup vs)) := .same (same_new n)
  exact h _ _ x (s.up x) (Den.tup (hid_of upd_same (s.fresh n)) (Dens.shows (shows_hid x) hs))
/-- a new list -/
theorem Aft.newL {W : WX} {Θ : Th} {mg : Str → Option Value} {p : Addr} {vs : List V} {ds : List D} (nh : ∀ a, H a = none → Hs a = none) (s : Stt Θ B H0 O ρ σ H) (n : H p = none) (hs : Dens Θ (hid B σ O H) vs ds) (h : Aft Θ mg W .f B H0 O ρ σ Hs H (.ok (.lst ds)) Q) : Q (.ref p) (upd H p (.lst vs)) := by
  have x : Ext Θ (Hd B σ O) H (upd H p (.lst vs)) := .same (same_new n)
  exact h _ _ x (s.up x) ⟨p, rfl, nh _ n, s.fresh n, .lst upd_same (Dens.shows (shows_newcut n x) hs)⟩
theorem Aft.fe {W : WX} {Θ : Th} {mg : Str → Option Value} {r : Res D} (h : Aft Θ mg W .e B H0 O ρ σ Hs H r Q) : Aft Θ mg W .f B H0 O ρ σ Hs H r Q := by
  cases r with
  | ok d => exact fun v H' x s p => h v H' x s p.fe
  | exc c p => exact h
  | bad => exact h
/-- scalars are shown -/
theorem PP.scal {Θ : Th} {v : V} (h : ∀ G, Den Θ G v d) : PP Θ .e B σ O Hs H d v := h _

/-! ### arithmetic, joining -/
def okI (n : Int) : Res D := .ok (.int n)
def fAdd : D → D → Res D
  | .int i, .int j => .ok (.int (i + j))
  | .str x, .str y => if x.length + y.length ≤ 16777216 then .ok (.str (x ++ y)) else .bad
  | .tup xs, .tup ys => if xs.length + ys.length ≤ 16777216 then .ok (.tup (xs ++ ys)) else .bad
  | .lst xs, .lst ys => if xs.length + ys.length ≤ 16777216 then .ok (.lst (xs ++ ys)) else .bad
  | _, _ => .bad
def fSub : D → D → Res D
  | .int i, .int j => .ok (.int (i - j))
  | _, _ => .bad
def fMul : D → D → Res D
  | .int i, .int j => if (-(2 ^ 64) < i ∧ i < 2 ^ 64) ∨ (-(2 ^ 64) < j ∧ j < 2 ^ 64) then .ok (.int (i * j)) else .bad
  | _, _ => .bad
def fDiv : D → D → Res D
  | .int i, .int j => if 0 < j ∧ j < 1073741824 then .ok (.int (i / j)) else .bad
  | _, _ => .bad
def fMod : D → D → Res D
  | .int i, .int j => if 0 < j then .ok (.int (i % j)) else .bad
  | _, _ => .bad
def fPow : D → D → Res D
  | .int i, .int j => if 0 ≤ j ∧ j ≤ 1000000 ∧ i.natAbs < 2 ^ 64 then .ok (.int (i ^ j.toNat)) else .bad
  | _, _ => .bad
def fNeg : D → Res D
  | .int i => .ok (.int (-i))
  | _ => .bad
def rAddA (X : Cx) : R2 := fun x y H Q => (rI0 (fun i j => .int (i + j)) x y H Q ∨ (∃ i j, x = .str i ∧ y = .str j ∧ i.length + j.length ≤ sizeLine ∧ Q (.str (i ++ j)) H)) ∨ (rCatA X.K x y H Q ∨ rCat x y H Q)
theorem op_addA {X : Cx} : OpR X (binaryOp .Add) (rAddA X) := (op_add.or op_add_str).or (op_catA.or op_cat)
theorem sl24 : (sizeLine : Nat) = 16777216 := sizeLine_eq
theorem Dens.nil_iff {Θ : Th} {G : Hp} {vs : List V} {ds : List D} (h : Dens Θ G vs ds) : vs = [] ↔ ds = [] := by
  cases h <;> simp
theorem od_add : OpD C ma mb .e O fAdd (rAddA C.X) := by
  intro B H0 ρ σ Hs H d1 d2 v1 v2 Q nh s p1 p2 h
  cases d1 with
  | int i =>
    cases d2 with
    | int j => exact .inl (.inl ⟨i, j, p1.int, p2.int, h.val s (PP.scal fun _ => .int _)⟩)
    | _ => exact h.elim
  | str i =>
    cases d2 with
    | str j =>
      obtain ⟨hz, h⟩ := Aft.ite h
      exact .inl (.inr ⟨i, j, p1.str, p2.str, by rw [sl24]; exact hz, h.val s (PP.scal fun _ => .str _)⟩)
    | _ => exact h.elim
  | tup xs =>
    cases d2 with
    | tup ys =>
      obtain ⟨a, vs, rfl, ea, hx⟩ := p1.tup
      obtain ⟨b, ws, rfl, eb, hy⟩ := p2.tup
      obtain ⟨hz, h⟩ := Aft.ite h
      refine .inr (.inl ⟨a, b, vs, ws, rfl, rfl, SqT.at ea, SqT.at eb, by rw [sl24, hx.len, hy.len]; exact hz, fun e => ?_, fun _ e => ?_, fun _ _ p n => ?_⟩)
      · have e1 := hx.nil_iff.mp e
        subst e1
        exact h.val s p2.te
      · have e1 := hy.nil_iff.mp e
        subst e1
        rw [List.append_nil] at h
        exact h.val s p1.te
      · exact Aft.newT s n (hx.append hy) h
    | _ => exact h.elim
  | lst xs =>
    cases d2 with
    | lst ys =>
      obtain ⟨a, vs, rfl, ea, hx⟩ := p1.lst
      obtain ⟨b, ws, rfl, eb, hy⟩ := p2.lst
      obtain ⟨hz, h⟩ := Aft.ite h
      exact .inr (.inr ⟨a, b, vs, ws, rfl, rfl, ea, eb, by rw [sl24, hx.len, hy.len]; exact hz, fun p n => Aft.newL nh s n (hx.append hy) h.fe⟩)
    | _ => exact h.elim
  | _ => exact h.elim
/-- lists alone: the joined list is new -/
def fAddL : D → D → Res D
  | .lst xs, .lst ys => if xs.length + ys.length ≤ 16777216 then .ok (.lst (xs ++ ys)) else .bad
  | _, _ => .bad
theorem od_addL : OpD C ma mb .f O fAddL rCat := by
  intro B H0 ρ σ Hs H d1 d2 v1 v2 Q nh s p1 p2 h
  cases d1 with
  | lst xs =>
    cases d2 with
    | lst ys =>
      obtain ⟨a, vs, rfl, ea, hx⟩ := p1.lst
      obtain ⟨b, ws, rfl, eb, hy⟩ := p2.lst
      obtain ⟨hz, h⟩ := Aft.ite h
      exact ⟨a, b, vs, ws, rfl, rfl, ea, eb, by rw [sl24, hx.len, hy.len]; exact hz, fun p n => Aft.newL nh s n (hx.append hy) h⟩
    | _ => exact h.elim
  | _ => exact h.elim
theorem od_sub : OpD C ma mb .e O fSub (rI0 fun i j => .int (i - j)) := by
  intro B H0 ρ σ Hs H d1 d2 v1 v2 Q nh s p1 p2 h
  cases d1 with
  | int i =>
    cases d2 with
    | int j => exact ⟨i, j, p1.int, p2.int, h.val s (PP.scal fun _ => .int _)⟩
    | _ => exact h.elim
  | _ => exact h.elim
theorem od_mul : OpD C ma mb .e O fMul (rI CMul fun i j => .int (i * j)) := by
  intro B H0 ρ σ Hs H d1 d2 v1 v2 Q nh s p1 p2 h
  cases d1 with
  | int i =>
    cases d2 with
    | int j =>
      obtain ⟨hz, h⟩ := Aft.ite h
      exact ⟨i, j, p1.int, p2.int, hz, h.val s (PP.scal fun _ => .int _)⟩
    | _ => exact h.elim
  | _ => exact h.elim
theorem od_div : OpD C ma mb .e O fDiv (rI CDiv fun i j => .int (i / j)) := by
  intro B H0 ρ σ Hs H d1 d2 v1 v2 Q nh s p1 p2 h
  cases d1 with
  | int i =>
    cases d2 with
    | int j =>
      obtain ⟨hz, h⟩ := Aft.ite h
      exact ⟨i, j, p1.int, p2.int, hz, h.val s (PP.scal fun _ => .int _)⟩
    | _ => exact h.elim
  | _ => exact h.elim
theorem od_mod : OpD C ma mb .e O fMod (rI (fun _ j => 0 < j) fun i j => .int (i % j)) := by
  intro B H0 ρ σ Hs H d1 d2 v1 v2 Q nh s p1 p2 h
  cases d1 with
  | int i =>
    cases d2 with
    | int j =>
      obtain ⟨hz, h⟩ := Aft.ite h
      exact ⟨i, j, p1.int, p2.int, hz, h.val s (PP.scal fun _ => .int _)⟩
    | _ => exact h.elim
  | _ => exact h.elim
theorem od_pow : OpD C ma mb .e O fPow (rI CPow fun i j => .int (i ^ j.toNat)) := by
  intro B H0 ρ σ Hs H d1 d2 v1 v2 Q nh s p1 p2 h
  cases d1 with
  | int i =>
    cases d2 with
    | int j =>
      obtain ⟨hz, h⟩ := Aft.ite h
      exact ⟨i, j, p1.int, p2.int, hz, h.val s (PP.scal fun _ => .int _)⟩
    | _ => exact h.elim
  | _ => exact h.elim
theorem ud_neg : UnD C ma .e O fNeg (rU fun i => .int (-i)) := by
  intro B H0 ρ σ Hs H d1 v1 Q nh s p1 h
  cases d1 with
  | int i => exact ⟨i, p1.int, h.val s (PP.scal fun _ => .int _)⟩
  | _ => exact h.elim
theorem ve_add (ha : VM C ma O a da) (hb : VM C mb O b db) : VM C .e O (.BinOp a .Add b pos) (dBin fAdd da db) := ve_op op_addA od_add ha hb
theorem vf_add (ha : VM C ma O a da) (hb : VM C mb O b db) : VM C .f O (.BinOp a .Add b pos) (dBin fAddL da db) := ve_op op_cat od_addL ha hb
theorem ve_sub (ha : VM C ma O a da) (hb : VM C mb O b db) : VM C .e O (.BinOp a .Sub b pos) (dBin fSub da db) := ve_op op_sub od_sub ha hb
theorem ve_mul (ha : VM C ma O a da) (hb : VM C mb O b db) : VM C .e O (.BinOp a .Mult b pos) (dBin fMul da db) := ve_op op_mul od_mul ha hb
theorem ve_div (ha : VM C ma O a da) (hb : VM C mb O b db) : VM C .e O (.BinOp a .FloorDiv b pos) (dBin fDiv da db) := ve_op op_fdiv od_div ha hb
theorem ve_mod (ha : VM C ma O a da) (hb : VM C mb O b db) : VM C .e O (.BinOp a .Mod b pos) (dBin fMod da db) := ve_op op_mod od_mod ha hb
theorem ve_pow (ha : VM C ma O a da) (hb : VM C mb O b db) : VM C .e O (.BinOp a .Pow b pos) (dBin fPow da db) := ve_op op_pow od_pow ha hb
theorem ve_neg (ha : VM C ma O a da) : VM C .e O (.UnaryOp .USub a pos) (dUn fNeg da) := ve_un un_neg ud_neg ha

/-! ### == != < <= > >= -/
def fEq (x y : D) : Res D := if pl x = true ∧ pl y = true ∧ min (dep x) (dep y) ≤ 60 then .ok (.bl (PyData.eqv (toP x) (toP y))) else .bad
def fNe (x y : D) : Res D := if pl x = true ∧ pl y = true ∧ min (dep x) (dep y) ≤ 60 then .ok (.bl (!PyData.eqv (toP x) (toP y))) else .bad
/-- the two can be ordered -/
def ordOk (x y : D) : Prop := pl x = true ∧ pl y = true ∧ min (dep x) (dep y) ≤ 60 ∧ PySem.W.alike (toP x) (toP y) = true ∧ toP x ≠ .none
instance (x y : D) : Decidable (ordOk x y) := by
  unfold ordOk
  have : Decidable (toP x ≠ .none) := by
    cases x <;> first | exact isFalse (fun h => h rfl) | exact isTrue (by simp [toP])
  exact inferInstance
def ltD (x y : D) : Bool := PySem.W.dataLt (toP x) (toP y)
def fLt : D → D → Res D
  | .int i, .int j => .ok (.bl (decide (i < j)))
  | x, y => if ordOk x y then .ok (.bl (ltD x y)) else .bad
def fLe : D → D → Res D
  | .int i, .int j => .ok (.bl (decide (i ≤ j)))
  | x, y => if ordOk x y then .ok (.bl (!ltD y x)) else .bad
def fGt : D → D → Res D
  | .int i, .int j => .ok (.bl (decide (j < i)))
  | x, y => if ordOk x y then .ok (.bl (ltD y x)) else .bad
def fGe : D → D → Res D
  | .int i, .int j => .ok (.bl (decide (j ≤ i)))
  | x, y => if ordOk x y then .ok (.bl (!ltD x y)) else .bad
/-- the values as data, where the heap stands -/
def rData (K : PySem.W.Frag) (op : PyData → PyData → Bool) (c : PyData → PyData → Prop) : R2 := fun x y H Q => ∃ d e, Dp K H x d ∧ Dp K H y e ∧ d.plain = true ∧ e.plain = true ∧ min d.depth e.depth ≤ 60 ∧ c d e ∧ Q (.bl (op d e)) H
theorem op_eqP : OpR C.X (compareOp .Eq) (rData C.X.K PyData.eqv fun _ _ => True) := by
  intro pins s σ H x y v u Q I rx ry h
  obtain ⟨d, e, hd, he, sd, se, hz, _, q⟩ := h
  obtain ⟨as, r1⟩ := Dp.reads I d x v hd rx
  obtain ⟨bs, r2⟩ := Dp.reads I e y u he ry
  exact PySem.SeqAt.eq_plain r1 r2 sd se (by have := C.units; omega) ⟨.bl _, H, I, rfl, q⟩
theorem op_neP : OpR C.X (compareOp .NotEq) (rData C.X.K (fun d e => !PyData.eqv d e) fun _ _ => True) := by
  intro pins s σ H x y v u Q I rx ry h
  obtain ⟨d, e, hd, he, sd, se, hz, _, q⟩ := h
  obtain ⟨as, r1⟩ := Dp.reads I d x v hd rx
  obtain ⟨bs, r2⟩ := Dp.reads I e y u he ry
  exact PySem.SeqAt.ne_plain r1 r2 sd se (by have := C.units; omega) ⟨.bl _, H, I, rfl, q⟩
def cOrd (d e : PyData) : Prop := PySem.W.alike d e = true ∧ d ≠ .none
theorem op_ltP : OpR C.X (compareOp .Lt) (rData C.X.K PySem.W.dataLt cOrd) := by
  intro pins s σ H x y v u Q I rx ry h
  obtain ⟨d, e, hd, he, sd, se, hz, ⟨c1, c2⟩, q⟩ := h
  obtain ⟨as, r1⟩ := Dp.reads I d x v hd rx
  obtain ⟨bs, r2⟩ := Dp.reads I e y u he ry
  exact PySem.W.lt_data r1 r2 c1 c2 (by have := C.units; omega) ⟨.bl _, H, I, rfl, q⟩
theorem op_leP : OpR C.X (compareOp .LtE) (rData C.X.K (fun d e => !PySem.W.dataLt e d) cOrd) := by
  intro pins s σ H x y v u Q I rx ry h
  obtain ⟨d, e, hd, he, sd, se, hz, ⟨c1, c2⟩, q⟩ := h
  obtain ⟨as, r1⟩ := Dp.reads I d x v hd rx
  obtain ⟨bs, r2⟩ := Dp.reads I e y u he ry
  exact PySem.W.le_data r1 r2 c1 c2 (by have := C.units; omega) ⟨.bl _, H, I, rfl, q⟩
theorem op_gtP : OpR C.X (compareOp .Gt) (rData C.X.K (fun d e => PySem.W.dataLt e d) cOrd) := by
  intro pins s σ H x y v u Q I rx ry h
  obtain ⟨d, e, hd, he, sd, se, hz, ⟨c1, c2⟩, q⟩ := h
  obtain ⟨as, r1⟩ := Dp.reads I d x v hd rx
  obtain ⟨bs, r2⟩ := Dp.reads I e y u he ry
  exact PySem.W.gt_data r1 r2 c1 c2 (by have := C.units; omega) ⟨.bl _, H, I, rfl, q⟩
theorem op_geP : OpR C.X (compareOp .GtE) (rData C.X.K (fun d e => !PySem.W.dataLt d e) cOrd) := by
  intro pins s σ H x y v u Q I rx ry h
  obtain ⟨d, e, hd, he, sd, se, hz, ⟨c1, c2⟩, q⟩ := h
  obtain ⟨as, r1⟩ := Dp.reads I d x v hd rx
  obtain ⟨bs, r2⟩ := Dp.reads I e y u he ry
  exact PySem.W.ge_data r1 r2 c1 c2 (by have := C.units; omega) ⟨.bl _, H, I, rfl, q⟩
theorem od_eq : OpD C ma mb .e O fEq (rData C.X.K PyData.eqv fun _ _ => True) := by
  intro B H0 ρ σ Hs H d1 d2 v1 v2 Q nh s p1 p2 h
  obtain ⟨⟨h1, h2, h3⟩, h⟩ := Aft.ite h
  exact ⟨toP d1, toP d2, p1.dp h1, p2.dp h2, toP_plain _ h1, toP_plain _ h2, by rw [toP_dep _ h1, toP_dep _ h2]; exact h3, trivial, h.val s (PP.scal fun _ => .bl _)⟩
theorem od_ne : OpD C ma mb .e O fNe (rData C.X.K (fun d e => !PyData.eqv d e) fun _ _ => True) := by
  intro B H0 ρ σ Hs H d1 d2 v1 v2 Q nh s p1 p2 h
  obtain ⟨⟨h1, h2, h3⟩, h⟩ := Aft.ite h
  exact ⟨toP d1, toP d2, p1.dp h1, p2.dp h2, toP_plain _ h1, toP_plain _ h2, by rw [toP_dep _ h1, toP_dep _ h2]; exact h3, trivial, h.val s (PP.scal fun _ => .bl _)⟩
theorem od_ord {f : D → D → Res D} {op : PyData → PyData → Bool} {g : Int → Int → Bool} (hi : ∀ i j, f (.int i) (.int j) = .ok (.bl (g i j)))
    (hf : ∀ x y, (∀ i j, ¬ (x = .int i ∧ y = .int j)) → f x y = if ordOk x y then .ok (.bl (op (toP x) (toP y))) else .bad) :
    OpD C ma mb .e O f (fun x y H Q => rI0 (fun i j => .bl (g i j)) x y H Q ∨ rData C.X.K op cOrd x y H Q) := by
  intro B H0 ρ σ Hs H d1 d2 v1 v2 Q nh s p1 p2 h
  by_cases hc : ∃ i j, d1 = .int i ∧ d2 = .int j
  · obtain ⟨i, j, rfl, rfl⟩ := hc
    rw [hi] at h
    exact .inl ⟨i, j, p1.int, p2.int, h.val s (PP.scal fun _ => .bl _)⟩
  · rw [hf d1 d2 fun i j hij => hc ⟨i, j, hij⟩] at h
    obtain ⟨⟨h1, h2, h3, h4, h5⟩, h⟩ := Aft.ite h
    exact .inr ⟨toP d1, toP d2, p1.dp h1, p2.dp h2, toP_plain _ h1, toP_plain _ h2, by rw [toP_dep _ h1, toP_dep _ h2]; exact h3, ⟨h4, h5⟩, h.val s (PP.scal fun _ => .bl _)⟩
theorem op_ltA : OpR C.X (compareOp .Lt) (fun x y H Q => rI0 (fun i j => .bl (decide (i < j))) x y H Q ∨ rData C.X.K PySem.W.dataLt cOrd x y H Q) := op_lt.or op_ltP
theorem op_leA : OpR C.X (compareOp .LtE) (fun x y H Q => rI0 (fun i j => .bl (decide (i ≤ j))) x y H Q ∨ rData C.X.K (fun d e => !PySem.W.dataLt e d) cOrd x y H Q) := op_le.or op_leP
theorem op_gtA : OpR C.X (compareOp .Gt) (fun x y H Q => rI0 (fun i j => .bl (decide (j < i))) x y H Q ∨ rData C.X.K (fun d e => PySem.W.dataLt e d) cOrd x y H Q) := op_gt.or op_gtP
theorem op_geA : OpR C.X (compareOp .GtE) (fun x y H Q => rI0 (fun i j => .bl (decide (j ≤ i))) x y H Q ∨ rData C.X.K (fun d e => !PySem.W.dataLt d e) cOrd x y H Q) := op_ge.or op_geP
theorem od_lt : OpD C ma mb .e O fLt (fun x y H Q => rI0 (fun i j => .bl (decide (i < j))) x y H Q ∨ rData C.X.K PySem.W.dataLt cOrd x y H Q) := od_ord (fun _ _ => rfl) fun x y h => by
  unfold fLt; split
  · exact absurd ⟨rfl, rfl⟩ (h _ _)
  · rfl
theorem od_le : OpD C ma mb .e O fLe (fun x y H Q => rI0 (fun i j => .bl (decide (i ≤ j))) x y H Q ∨ rData C.X.K (fun d e => !PySem.W.dataLt e d) cOrd x y H Q) := od_ord (fun _ _ => rfl) fun x y h => by
  unfold fLe; split
  · exact absurd ⟨rfl, rfl⟩ (h _ _)
  · rfl
theorem od_gt : OpD C ma mb .e O fGt (fun x y H Q => rI0 (fun i j => .bl (decide (j < i))) x y H Q ∨ rData C.X.K (fun d e => PySem.W.dataLt e d) cOrd x y H Q) := od_ord (fun _ _ => rfl) fun x y h => by
  unfold fGt; split
  · exact absurd ⟨rfl, rfl⟩ (h _ _)
  · rfl
theorem od_ge : OpD C ma mb .e O fGe (fun x y H Q => rI0 (fun i j => .bl (decide (j ≤ i))) x y H Q ∨ rData C.X.K (fun d e => !PySem.W.dataLt d e) cOrd x y H Q) := od_ord (fun _ _ => rfl) fun x y h => by
  unfold fGe; split
  · exact absurd ⟨rfl, rfl⟩ (h _ _)
  · rfl
end
end Dn

namespace Dn
open PySem PySem.Spec L2
open PyProof.Rows hiding St

/-! ### dicts -/
def kOf : D → Option Key
  | .int i => some (.inl i)
  | .str x => some (.inr x)
  | _ => none
def ksOf : List D → Option (List Key)
  | [] => some []
  | d :: ds => match kOf d, ksOf ds with
    | some k, some ks => some (k :: ks)
    | _, _ => none
def lookE {κ : Type} [DecidableEq κ] (es : List (κ × D)) (k : κ) : Option D := (es.find? fun kv => decide (kv.1 = k)).map (·.2)
/-- what a dict has at a key; none where it is no dict or no key -/
def getD : D → D → Option (Option D)
  | .dk es, x => (kOf x).map (lookE es)
  | .dt es, .tup ds => (ksOf ds).map (lookE es)
  | .lets b, .tup ds => (ksOf ds).map fun ks => (valV (letsKV b) ks).map fun _ => D.bl true
  | _, _ => none
section
variable {Θ : Th} {B : Addr → Prop} {σ : L2.St} {O : List Nat} {Hs H G : Hp} {v vc vx : V} {c x d : D} {m mc mx : Mode}
/-- found in both, or in none -/
def Both (Θ : Th) (G : Hp) (ov : Option V) (od : Option D) : Prop :=
  match ov, od with
  | some v, some d => Den Θ G v d
  | none, none => True
  | _, _ => False
theorem look_val {κ : Type} [DecidableEq κ] (k : κ) : ∀ {kvs : List (κ × V)} {es : List (κ × D)}, kvs.map (·.1) = es.map (·.1) → Dens Θ G (kvs.map (·.2)) (es.map (·.2)) → Both Θ G (valV kvs k) (lookE es k)
  | [], [], _, _ => trivial
  | [], _ :: _, h, _ => by simp at h
  | _ :: _, [], h, _ => by simp at h
  | p :: kvs, q :: es, h, hs => by
    simp only [List.map_cons, List.cons.injEq] at h
    cases hs with
    | cons h1 h2 =>
      by_cases e : p.1 = k
      · have e' : q.1 = k := h.1 ▸ e
        have r1 : valV (p :: kvs) k = some p.2 := by simp [valV, List.find?_cons, e]
        have r2 : lookE (q :: es) k = some q.2 := by simp [lookE, List.find?_cons, e']
        rw [r1, r2]
        exact h1
      · have e' : ¬ q.1 = k := h.1 ▸ e
        have r1 : valV (p :: kvs) k = valV kvs k := by simp [valV, List.find?_cons, e]
        have r2 : lookE (q :: es) k = lookE es k := by simp [lookE, List.find?_cons, e']
        rw [r1, r2]
        exact look_val k h.2 h2
theorem PP.key {k : Key} (hp : PP Θ m B σ O Hs H d v) (h : kOf d = some k) : v = kV k := by
  cases d with
  | int i => cases h; exact hp.int
  | str i => cases h; exact hp.str
  | _ => cases h
theorem Den.key {k : Key} (hp : Den Θ G v d) (h : kOf d = some k) : v = kV k := by
  cases hp with
  | int i => cases h; rfl
  | str i => cases h; rfl
  | _ => cases h
theorem Dens.keys : ∀ {vs : List V} {ds : List D} {ks : List Key}, Dens Θ G vs ds → ksOf ds = some ks → vs = ks.map kV
  | _, _, _, .nil, h => by cases h; rfl
  | _, _, ks, .cons h1 h2, h => by
    unfold ksOf at h
    split at h
    · rename_i k ks' e1 e2
      cases h
      rw [List.map_cons, h1.key e1, Dens.keys h2 e2]
    · cases h
theorem PP.dget {o : Option D} (pc : PP Θ mc B σ O Hs H c vc) (px : PP Θ mx B σ O Hs H x vx) (h : getD c x = some o) : ∃ a ov, vc = .ref a ∧ DGet H a vx ov ∧ Both Θ (hid B σ O H) ov o := by
  cases c with
  | dk es =>
    obtain ⟨a, kvs, rfl, ea, ek, hs⟩ := pc.dk
    have h : (kOf x).map (lookE es) = some o := h
    cases e : kOf x with
    | none => rw [e] at h; cases h
    | some k =>
      rw [e] at h
      cases h
      have := px.key e
      subst this
      exact ⟨a, _, rfl, DGet.k ea, look_val k ek hs⟩
  | dt es =>
    obtain ⟨a, kvs, rfl, ea, ek, hs⟩ := pc.dt
    cases x with
    | tup ds =>
      obtain ⟨b, ws, rfl, eb, hb⟩ := px.tup
      have h : (ksOf ds).map (lookE es) = some o := h
      cases e : ksOf ds with
      | none => rw [e] at h; cases h
      | some k =>
        rw [e] at h
        cases h
        have := hb.keys e
        subst this
        exact ⟨a, _, rfl, DGet.t ea eb, look_val k ek hs⟩
    | _ => cases h
  | lets bk =>
    obtain ⟨a, oo, rfl, ea⟩ := pc.lets
    cases x with
    | tup ds =>
      obtain ⟨b, ws, rfl, eb, hb⟩ := px.tup
      have h : (ksOf ds).map (fun ks => (valV (letsKV bk) ks).map fun _ => D.bl true) = some o := h
      cases e : ksOf ds with
      | none => rw [e] at h; cases h
      | some k =>
        rw [e] at h
        cases h
        have := hb.keys e
        subst this
        refine ⟨a, _, rfl, .inr ⟨_, k, b, .inr ⟨oo, ea⟩, rfl, eb, rfl⟩, ?_⟩
        show Both Θ (hid B σ O H) (valV (letsKV bk) k) (Option.map (fun _ => D.bl true) (valV (letsKV bk) k))
        cases q : valV (letsKV bk) k with
        | none => exact True.intro
        | some z =>
          have : z = V.bl true := by
            unfold valV at q
            rw [Option.map_eq_some_iff] at q
            obtain ⟨p, q1, q2⟩ := q
            have q3 := List.mem_of_find?_eq_some q1
            unfold letsKV at q3
            rw [List.mem_map] at q3
            obtain ⟨t, _, q4⟩ := q3
            rw [← q2, ← q4]
          subst this
          exact Den.bl true
    | _ => cases h
  | _ => cases h
end

section
variable {C : Ctx} {m ma mb mc : Mode} {O : List Nat} {e a b c : Expr} {es : List Expr} {den da db dc : Rho → Res D} {pos p p2 : Pos}
variable {B : Addr → Prop} {H0 Hs H : Hp} {ρ : Rho} {σ : L2.St} {d d1 d2 : D} {v1 v2 : V} {Q : VK}
theorem OpR.wk {X : Cx} {f : Value → Value → Sem Value} {r r' : R2} (h : OpR X f r) (w : ∀ x y H Q, r' x y H Q → r x y H Q) : OpR X f r' := fun pins s σ H x y v u Q I rx ry q => h pins s σ H x y v u Q I rx ry (w _ _ _ _ q)

/-! ### in -/
def inD (x c : D) : Res Bool :=
  match c with
  | .tup xs => if pl x = true ∧ pls xs = true ∧ min (deps xs) (dep x) ≤ 60 then .ok ((toPs xs).any fun y => PyData.eqv y (toP x)) else .bad
  | .lst xs => if pl x = true ∧ pls xs = true ∧ min (deps xs) (dep x) ≤ 60 then .ok ((toPs xs).any fun y => PyData.eqv y (toP x)) else .bad
  | .str j => match x with
    | .str i => .ok (!(Builtin.Str.occurrences j i 0 j.length 1).isEmpty)
    | _ => .bad
  | c => match getD c x with
    | some o => .ok o.isSome
    | none => .bad
def fIn (x c : D) : Res D := (inD x c).bind fun k => .ok (.bl k)
def fNotIn (x c : D) : Res D := (inD x c).bind fun k => .ok (.bl !k)
def rInA (K : PySem.W.Frag) (g : Bool → Bool) : R2 := fun x y H Q =>
  ((∃ d ds, Dp K H x d ∧ (Dp K H y (.tuple ds) ∨ Dp K H y (.list ds)) ∧ d.plain = true ∧ PyData.plainAll ds = true ∧ min (PyData.depthAll ds) d.depth ≤ 60 ∧ Q (.bl (g (ds.any fun z => PyData.eqv z d))) H) ∨
    (∃ i j, x = .str i ∧ y = .str j ∧ Q (.bl (g (!(Builtin.Str.occurrences j i 0 j.length 1).isEmpty))) H)) ∨
  ∃ a o, y = .ref a ∧ DGet H a x o ∧ Q (.bl (g o.isSome)) H
theorem op_inA : OpR C.X (compareOp .In) (rInA C.X.K id) := by
  refine OpR.or (OpR.or ?_ op_in_str) ?_
  · intro pins s σ H x y v u Q I rx ry h
    obtain ⟨d, ds, hd, he, sd, se, hz, q⟩ := h
    obtain ⟨as, r1⟩ := Dp.reads I d x v hd rx
    rcases he with he | he
    · obtain ⟨bs, r2⟩ := Dp.reads I (.tuple ds) y u he ry
      exact PySem.SeqAt.in_tuple_data r2 r1 se sd (by have := C.units; omega) ⟨.bl _, H, I, rfl, q⟩
    · obtain ⟨bs, r2⟩ := Dp.reads I (.list ds) y u he ry
      exact PySem.SeqAt.in_list_data r2 r1 se sd (by have := C.units; omega) ⟨.bl _, H, I, rfl, q⟩
  · intro pins s σ H x y v u Q I rx ry h
    obtain ⟨a, o, rfl, g, q⟩ := h
    obtain rfl : u = Value.ref a := ry
    exact d_in (by have := C.units; omega) I g rx fun s3 I3 => ⟨.bl o.isSome, H, I3, rfl, q⟩
theorem op_notInA : OpR C.X (compareOp .NotIn) (rInA C.X.K fun k => !k) := by
  refine OpR.or (OpR.or ?_ op_notIn_str) ?_
  · intro pins s σ H x y v u Q I rx ry h
    obtain ⟨d, ds, hd, he, sd, se, hz, q⟩ := h
    obtain ⟨as, r1⟩ := Dp.reads I d x v hd rx
    rcases he with he | he
    · obtain ⟨bs, r2⟩ := Dp.reads I (.tuple ds) y u he ry
      exact PySem.SeqAt.notIn_tuple_data r2 r1 se sd (by have := C.units; omega) ⟨.bl _, H, I, rfl, q⟩
    · obtain ⟨bs, r2⟩ := Dp.reads I (.list ds) y u he ry
      exact PySem.SeqAt.notIn_list_data r2 r1 se sd (by have := C.units; omega) ⟨.bl _, H, I, rfl, q⟩
  · intro pins s σ H x y v u Q I rx ry h
    obtain ⟨a, o, rfl, g, q⟩ := h
    obtain rfl : u = Value.ref a := ry
    exact d_notIn (by have := C.units; omega) I g rx fun s3 I3 => ⟨.bl (!o.isSome), H, I3, rfl, q⟩
theorem od_inA (g : Bool → Bool) : OpD C ma mb .e O (fun x c => (inD x c).bind fun k => .ok (.bl (g k))) (rInA C.X.K g) := by
  intro B H0 ρ σ Hs H d1 d2 v1 v2 Q nh s p1 p2 h
  have h : Aft C.Θ C.X.mg C.W Mode.e B H0 O ρ σ Hs H ((inD d1 d2).bind fun k => Res.ok (D.bl (g k))) Q := h
  have seqs : ∀ xs : List D, (d2 = .tup xs ∨ d2 = .lst xs) → rInA C.X.K g v1 v2 H Q := fun xs hx => by
    have hi : inD d1 d2 = if pl d1 = true ∧ pls xs = true ∧ min (deps xs) (dep d1) ≤ 60 then .ok ((toPs xs).any fun y => PyData.eqv y (toP d1)) else .bad := by
      rcases hx with rfl | rfl <;> rfl
    rw [hi] at h
    by_cases z : pl d1 = true ∧ pls xs = true ∧ min (deps xs) (dep d1) ≤ 60
    · rw [if_pos z] at h
      refine .inl (.inl ⟨toP d1, toPs xs, p1.dp z.1, ?_, toP_plain _ z.1, toPs_plain _ z.2.1, by rw [toP_dep _ z.1, toPs_dep _ z.2.1]; exact z.2.2, Aft.val s h (PP.scal fun _ => .bl _)⟩)
      rcases hx with rfl | rfl
      · have := p2.dp (K := C.X.K) (show pl (.tup xs) = true by simpa [pl] using z.2.1)
        simp only [toP] at this
        exact .inl this
      · have := p2.dp (K := C.X.K) (show pl (.lst xs) = true by simpa [pl] using z.2.1)
        simp only [toP] at this
        exact .inr this
    · rw [if_neg z] at h
      exact h.elim
  have dcts : (inD d1 d2 = match getD d2 d1 with | some o => .ok o.isSome | none => .bad) → rInA C.X.K g v1 v2 H Q := fun hi => by
    rw [hi] at h
    cases e : getD d2 d1 with
    | none => rw [e] at h; exact h.elim
    | some o =>
      rw [e] at h
      obtain ⟨a, ov, rfl, hg, hb⟩ := PP.dget p2 p1 e
      have : ov.isSome = o.isSome := by
        cases ov <;> cases o <;> first | rfl | exact hb.elim
      refine .inr ⟨a, ov, rfl, hg, ?_⟩
      rw [this]
      exact Aft.val s h (PP.scal fun _ => .bl _)
  cases d2 with
  | tup xs => exact seqs xs (.inl rfl)
  | lst xs => exact seqs xs (.inr rfl)
  | str j =>
    cases d1 with
    | str i => exact .inl (.inr ⟨i, j, p1.str, p2.str, Aft.val s h (PP.scal fun _ => .bl _)⟩)
    | _ => exact h.elim
  | _ => exact dcts rfl
theorem od_in : OpD C ma mb .e O fIn (rInA C.X.K id) := od_inA id
theorem od_notIn : OpD C ma mb .e O fNotIn (rInA C.X.K fun k => !k) := od_inA fun k => !k

/-! ### is None -/
def fIsN (x y : D) : Res D := match y with
  | .non => match x with
    | .non => .ok (.bl true)
    | _ => .ok (.bl false)
  | _ => .bad
def fNotN (x y : D) : Res D := match y with
  | .non => match x with
    | .non => .ok (.bl false)
    | _ => .ok (.bl true)
  | _ => .bad
theorem PP.isN {Θ : Th} (hp : PP Θ m B σ O Hs H d v1) : decide (v1 = .non) = (match d with | .non => true | _ => false) := by
  rcases hp.b with h | ⟨a, rfl, h⟩
  · cases h <;> rfl
  · cases h <;> rfl
theorem od_isN : OpD C ma mb .e O fIsN (fun x y H Q => y = .non ∧ Q (.bl (decide (x = .non))) H) := by
  intro B H0 ρ σ Hs H d1 d2 v1 v2 Q nh s p1 p2 h
  cases d2 with
  | non =>
    refine ⟨p2.non, ?_⟩
    rw [p1.isN]
    cases d1 <;> exact Aft.val s h (PP.scal fun _ => .bl _)
  | _ => exact h.elim
theorem od_notN : OpD C ma mb .e O fNotN (fun x y H Q => y = .non ∧ Q (.bl (!decide (x = .non))) H) := by
  intro B H0 ρ σ Hs H d1 d2 v1 v2 Q nh s p1 p2 h
  cases d2 with
  | non =>
    refine ⟨p2.non, ?_⟩
    rw [p1.isN]
    cases d1 <;> exact Aft.val s h (PP.scal fun _ => .bl _)
  | _ => exact h.elim

/-! ### the comparisons -/
theorem ve_eq (ha : VM C ma O a da) (hb : VM C mb O b db) : VM C .e O (.Compare a [.Eq] [b] pos) (dBin fEq da db) := ve_cmp op_eqP od_eq ha hb
theorem ve_ne (ha : VM C ma O a da) (hb : VM C mb O b db) : VM C .e O (.Compare a [.NotEq] [b] pos) (dBin fNe da db) := ve_cmp op_neP od_ne ha hb
theorem ve_lt (ha : VM C ma O a da) (hb : VM C mb O b db) : VM C .e O (.Compare a [.Lt] [b] pos) (dBin fLt da db) := ve_cmp op_ltA od_lt ha hb
theorem ve_le (ha : VM C ma O a da) (hb : VM C mb O b db) : VM C .e O (.Compare a [.LtE] [b] pos) (dBin fLe da db) := ve_cmp op_leA od_le ha hb
theorem ve_gt (ha : VM C ma O a da) (hb : VM C mb O b db) : VM C .e O (.Compare a [.Gt] [b] pos) (dBin fGt da db) := ve_cmp op_gtA od_gt ha hb
theorem ve_ge (ha : VM C ma O a da) (hb : VM C mb O b db) : VM C .e O (.Compare a [.GtE] [b] pos) (dBin fGe da db) := ve_cmp op_geA od_ge ha hb
theorem ve_in (ha : VM C ma O a da) (hb : VM C mb O b db) (hm : behindInMarks .In b = false := by rfl) : VM C .e O (.Compare a [.In] [b] pos) (dBin fIn da db) := ve_cmp op_inA od_in ha hb hm
theorem ve_notIn (ha : VM C ma O a da) (hb : VM C mb O b db) (hm : behindInMarks .NotIn b = false := by rfl) : VM C .e O (.Compare a [.NotIn] [b] pos) (dBin fNotIn da db) := ve_cmp op_notInA od_notIn ha hb hm
theorem ve_isN (ha : VM C ma O a da) (hb : VM C mb O b db) : VM C .e O (.Compare a [.Is] [b] pos) (dBin fIsN da db) := ve_cmp op_isN od_isN ha hb
theorem ve_notN (ha : VM C ma O a da) (hb : VM C mb O b db) : VM C .e O (.Compare a [.IsNot] [b] pos) (dBin fNotN da db) := ve_cmp op_notN od_notN ha hb
theorem vt_eq (ha : VM C ma O a da) (hb : VM C mb O b db) : VT C O (.Compare a [.Eq] [b] pos) (dTst (dBin fEq da db)) := vt_cmp op_eqP od_eq ha hb
theorem vt_ne (ha : VM C ma O a da) (hb : VM C mb O b db) : VT C O (.Compare a [.NotEq] [b] pos) (dTst (dBin fNe da db)) := vt_cmp op_neP od_ne ha hb
theorem vt_lt (ha : VM C ma O a da) (hb : VM C mb O b db) : VT C O (.Compare a [.Lt] [b] pos) (dTst (dBin fLt da db)) := vt_cmp op_ltA od_lt ha hb
theorem vt_le (ha : VM C ma O a da) (hb : VM C mb O b db) : VT C O (.Compare a [.LtE] [b] pos) (dTst (dBin fLe da db)) := vt_cmp op_leA od_le ha hb
theorem vt_gt (ha : VM C ma O a da) (hb : VM C mb O b db) : VT C O (.Compare a [.Gt] [b] pos) (dTst (dBin fGt da db)) := vt_cmp op_gtA od_gt ha hb
theorem vt_ge (ha : VM C ma O a da) (hb : VM C mb O b db) : VT C O (.Compare a [.GtE] [b] pos) (dTst (dBin fGe da db)) := vt_cmp op_geA od_ge ha hb
theorem vt_in (ha : VM C ma O a da) (hb : VM C mb O b db) (hm : behindInMarks .In b = false := by rfl) : VT C O (.Compare a [.In] [b] pos) (dTst (dBin fIn da db)) := vt_cmp op_inA od_in ha hb hm
theorem vt_notIn (ha : VM C ma O a da) (hb : VM C mb O b db) (hm : behindInMarks .NotIn b = false := by rfl) : VT C O (.Compare a [.NotIn] [b] pos) (dTst (dBin fNotIn da db)) := vt_cmp op_notInA od_notIn ha hb hm
theorem vt_isN (ha : VM C ma O a da) (hb : VM C mb O b db) : VT C O (.Compare a [.Is] [b] pos) (dTst (dBin fIsN da db)) := vt_cmp op_isN od_isN ha hb
theorem vt_notN (ha : VM C ma O a da) (hb : VM C mb O b db) : VT C O (.Compare a [.IsNot] [b] pos) (dTst (dBin fNotN da db)) := vt_cmp op_notN od_notN ha hb

/-! ### truth, and, or, not, if -/
def truD : D → Res Bool
  | .non => .ok false
  | .bl b => .ok b
  | .int i => .ok (i != 0)
  | .str y => if y.length ≤ 16777216 then .ok (y.length != 0) else .bad
  | .tup xs => .ok (!xs.isEmpty)
  | .lst xs => .ok (!xs.isEmpty)
  | .dk es => .ok (!es.isEmpty)
  | _ => .bad
theorem Dens.isEmpty {Θ : Th} {G : Hp} {vs : List V} {ds : List D} (h : Dens Θ G vs ds) : vs.isEmpty = ds.isEmpty := by cases h <;> rfl
theorem PP.tru {Θ : Th} {K : PySem.W.Frag} {k : Bool} (hp : PP Θ m B σ O Hs H d v1) (h : truD d = .ok k) : TruV K v1 H k := by
  cases d with
  | non => cases hp.non; cases h; rfl
  | bl b => cases hp.bl; cases h; rfl
  | int i => cases hp.int; cases h; rfl
  | str y =>
    cases hp.str
    have h : (if y.length ≤ 16777216 then Res.ok (y.length != 0) else .bad) = .ok k := h
    split at h
    · rename_i hz
      cases h
      refine ⟨by rw [sl24]; exact hz, ?_⟩
      generalize y.length = n
      cases n <;> rfl
    · cases h
  | tup xs =>
    obtain ⟨a, vs, rfl, ea, hs⟩ := hp.tup
    cases h
    exact .inr (.inl ⟨vs, SqT.at ea, by rw [hs.isEmpty]⟩)
  | lst xs =>
    obtain ⟨a, vs, rfl, ea, hs⟩ := hp.lst
    cases h
    exact .inl ⟨vs, SqL.at ea, by rw [hs.isEmpty]⟩
  | dk es =>
    obtain ⟨a, kvs, rfl, ea, ek, hs⟩ := hp.dk
    cases h
    refine .inr (.inr ⟨kvs, ea, ?_⟩)
    have := congrArg List.length ek
    rw [List.length_map, List.length_map] at this
    cases kvs <;> cases es <;> first | rfl | simp at this
  | _ => cases h
def dTru (da : Rho → Res D) : Rho → Res Bool := fun ρ => (da ρ).bind truD
theorem vt_tru (ha : VM C ma O a da) (he : ∀ whole, isTrue a C.X.env whole = (do let v ← whole; standAt a.pos; holding [v] (truthy v)) := by intro _; rfl) : VT C O a (dTru da) :=
  PT.wk (pt_truth ha he) fun σ H Q ⟨B, H0, ρ, s, q⟩ => by
    refine ⟨B, H0, ρ, s, ?_⟩
    unfold dTru at q
    generalize da ρ = ra at q ⊢
    cases ra with
    | bad => exact q.elim
    | exc c p => exact q
    | ok d =>
      intro v H' x s' p
      rw [Res.bind_ok] at q
      cases e : truD d with
      | bad => rw [e] at q; exact q.elim
      | exc c p =>
        cases d <;> simp [truD] at e
        split at e <;> cases e
      | ok k =>
        rw [e] at q
        exact ⟨k, p.tru e, q H' x s'⟩
abbrev VW (C : Ctx) (O : List Nat) (e : Expr) (den : Rho → Res Bool) : Prop := PW C.X e (rdT C.Θ C.X.mg C.W O den)
theorem PW.wk {X : Cx} {e : Expr} {t t' : TT} (h : PW X e t) (w : ∀ σ H Q, t' σ H Q → t σ H Q) : PW X e t' := ⟨fun wh pins s σ H Q I q => h.run wh pins s σ H Q I (w _ _ _ q)⟩
def dAndT (ta tb : Rho → Res Bool) : Rho → Res Bool := fun ρ => (ta ρ).bind fun c => if c = true then tb ρ else .ok false
def dOrT (ta tb : Rho → Res Bool) : Rho → Res Bool := fun ρ => (ta ρ).bind fun c => if c = true then .ok true else tb ρ
def dNotT (ta : Rho → Res Bool) : Rho → Res Bool := fun ρ => (ta ρ).bind fun c => .ok !c
/-- a test's results -/
def AftT (Θ : Th) (mg : Str → Option Value) (W : WX) (B : Addr → Prop) (H0 : Hp) (O : List Nat) (ρ : Rho) (σ : L2.St) (H : Hp) (r : Res Bool) (Q : Bool → Hp → Prop) : Prop :=
  match r with
  | .ok b => ∀ H', Ext Θ (Hd B σ O) H H' → Stt Θ B H0 O ρ σ H' → Q b H'
  | .exc c p => ∀ cls dd H', Ext Θ (Hd B σ O) H H' → Stt Θ B H0 O ρ σ H' → ExcOk Θ mg H' c p cls dd → W cls dd σ H'
  | .bad => False
theorem AftT.seq {Θ : Th} {mg : Str → Option Value} {W : WX} {H H' : Hp} {r : Res Bool} {Q : Bool → Hp → Prop} (x : Ext Θ (Hd B σ O) H H') (h : AftT Θ mg W B H0 O ρ σ H r Q) : AftT Θ mg W B H0 O ρ σ H' r Q := by
  cases r with
  | ok d => exact fun H'' y s => h H'' (x.trans y) s
  | exc c p => exact fun cls dd H'' y s e => h cls dd H'' (x.trans y) s e
  | bad => exact h
theorem rdT_def {Θ : Th} {mg : Str → Option Value} {W : WX} {dt : Rho → Res Bool} {T : Bool → Hp → Prop} : rdT Θ mg W O dt σ H T ↔ ∃ B H0 ρ, Stt Θ B H0 O ρ σ H ∧ AftT Θ mg W B H0 O ρ σ H (dt ρ) T := Iff.rfl
/-- a test behind which one goes on -/
theorem rdT_bind {Θ : Th} {mg : Str → Option Value} {W : WX} {ta : Rho → Res Bool} {f : Bool → Res Bool} {T : Bool → Hp → Prop} {R : Bool → Hp → Prop}
    (s : Stt Θ B H0 O ρ σ H) (h : AftT Θ mg W B H0 O ρ σ H ((ta ρ).bind f) T) (k : ∀ c H', Ext Θ (Hd B σ O) H H' → Stt Θ B H0 O ρ σ H' → AftT Θ mg W B H0 O ρ σ H' (f c) T → R c H') : rdT Θ mg W O ta σ H R := by
  refine ⟨B, H0, ρ, s, ?_⟩
  generalize ta ρ = r at h ⊢
  cases r with
  | bad => exact h.elim
  | exc c p => exact h
  | ok c => exact fun H' x s' => k c H' x s' (AftT.seq x h)
variable {ta tb : Rho → Res Bool} {rest : List Expr}
theorem vw_and1 (ha : VT C O a ta) : VW C O (.BoolOp .And [a] pos) ta := pw_and1 ha
theorem vw_or1 (ha : VT C O a ta) : VW C O (.BoolOp .Or [a] pos) ta := pw_or1 ha
theorem vw_and (ha : VT C O a ta) (hb : VW C O (.BoolOp .And (b :: rest) pos) tb) : VW C O (.BoolOp .And (a :: b :: rest) pos) (dAndT ta tb) :=
  PW.wk (pw_and ha hb) fun σ H Q ⟨B, H0, ρ, s, q⟩ => rdT_bind s q fun c H' x s' q' => by
    cases c with
    | true => exact ⟨B, H0, ρ, s', q'⟩
    | false => exact q' H' .refl s'
theorem vw_or (ha : VT C O a ta) (hb : VW C O (.BoolOp .Or (b :: rest) pos) tb) : VW C O (.BoolOp .Or (a :: b :: rest) pos) (dOrT ta tb) :=
  PW.wk (pw_or ha hb) fun σ H Q ⟨B, H0, ρ, s, q⟩ => rdT_bind s q fun c H' x s' q' => by
    cases c with
    | false => exact ⟨B, H0, ρ, s', q'⟩
    | true => exact q' H' .refl s'
theorem vt_bool {e : Expr} {t : Rho → Res Bool} (h : VW C O e t) : VT C O e t := h.pt
theorem vt_not (ha : VT C O a ta) : VT C O (.UnaryOp .Not a pos) (dNotT ta) :=
  PT.wk (pt_not ha) fun σ H Q ⟨B, H0, ρ, s, q⟩ => rdT_bind s q fun c H' x s' q' => q' H' .refl s'
/-- going on behind an expression -/
theorem rd_bind {Θ : Th} {mg : Str → Option Value} {W : WX} {f : D → Res D} {T : VK} {R : VK} {Hs : Hp} (nh : ∀ a, H a = none → Hs a = none)
    (s : Stt Θ B H0 O ρ σ H) (h : Aft Θ mg W m B H0 O ρ σ Hs H ((da ρ).bind f) T) (k : ∀ d v H', Ext Θ (Hd B σ O) H H' → Stt Θ B H0 O ρ σ H' → PP Θ ma B σ O Hs H' d v → Aft Θ mg W m B H0 O ρ σ Hs H' (f d) T → R v H') : rd Θ mg W ma O da σ H R := by
  refine ⟨B, H0, ρ, s, ?_⟩
  generalize da ρ = r at h ⊢
  cases r with
  | bad => exact h.elim
  | exc c p => exact h
  | ok d => exact fun v H' x s' p => k d v H' x s' (PP.hs nh p) (Aft.seq x h)
theorem rd_self {Θ : Th} {mg : Str → Option Value} {W : WX} {T : VK} {Hs : Hp} (nh : ∀ a, H a = none → Hs a = none) (s : Stt Θ B H0 O ρ σ H) (h : Aft Θ mg W m B H0 O ρ σ Hs H (da ρ) T) : rd Θ mg W m O da σ H T := by
  refine ⟨B, H0, ρ, s, ?_⟩
  generalize da ρ = r at h ⊢
  cases r with
  | bad => exact h.elim
  | exc c p => exact h
  | ok d => exact fun v H' x s' p => h v H' x s' (PP.hs nh p)
def dAndV (da db : Rho → Res D) : Rho → Res D := fun ρ => (da ρ).bind fun x => match x with
  | .bl c => if c = true then db ρ else .ok (.bl false)
  | _ => .bad
def dOrV (da db : Rho → Res D) : Rho → Res D := fun ρ => (da ρ).bind fun x => match x with
  | .bl c => if c = true then .ok (.bl true) else db ρ
  | _ => .bad
def dNotV (da : Rho → Res D) : Rho → Res D := fun ρ => (da ρ).bind fun x => match x with
  | .bl c => .ok (.bl !c)
  | _ => .bad
theorem nh_refl : ∀ a, H a = none → H a = none := fun _ h => h
theorem ve_one {op} (h : VM C m O a da) : VM C m O (.BoolOp op [a] pos) da := pe_one h
theorem ve_and (ha : VM C ma O a da) (hb : VM C .e O (.BoolOp .And (b :: rest) pos) db) : VM C .e O (.BoolOp .And (a :: b :: rest) pos) (dAndV da db) :=
  PE.wk (pe_and ha hb) fun σ H Q ⟨B, H0, ρ, s, q⟩ => rd_bind nh_refl s q fun d v H' x s' p q' => by
    cases d with
    | bl c =>
      refine ⟨c, p.bl, ?_⟩
      cases c with
      | true => exact rd_self (fun a n => x.new a n) s' q'
      | false => exact Aft.val s' q' (PP.scal fun _ => .bl _)
    | _ => exact q'.elim
theorem ve_or (ha : VM C ma O a da) (hb : VM C .e O (.BoolOp .Or (b :: rest) pos) db) : VM C .e O (.BoolOp .Or (a :: b :: rest) pos) (dOrV da db) :=
  PE.wk (pe_or ha hb) fun σ H Q ⟨B, H0, ρ, s, q⟩ => rd_bind nh_refl s q fun d v H' x s' p q' => by
    cases d with
    | bl c =>
      refine ⟨c, p.bl, ?_⟩
      cases c with
      | false => exact rd_self (fun a n => x.new a n) s' q'
      | true => exact Aft.val s' q' (PP.scal fun _ => .bl _)
    | _ => exact q'.elim
/-- not of a test's answer -/
def dNotE (da : Rho → Res D) : Rho → Res D := fun ρ => ((da ρ).bind truD).bind fun k => .ok (.bl !k)
theorem ve_not (ha : VM C ma O a da) : VM C .e O (.UnaryOp .Not a pos) (dNotE da) :=
  PE.wk (pe_notT ha) fun σ H Q ⟨B, H0, ρ, s, q⟩ => by
    unfold dNotE at q
    cases e : da ρ with
    | bad => rw [e] at q; exact q.elim
    | exc c p => rw [e] at q; exact ⟨B, H0, ρ, s, by rw [e]; exact q⟩
    | ok d =>
      rw [e, Res.bind_ok] at q
      refine ⟨B, H0, ρ, s, ?_⟩
      rw [e]
      intro v H' x s' p
      cases e2 : truD d with
      | bad => rw [e2] at q; exact q.elim
      | exc c p =>
        cases d <;> simp [truD] at e2
        split at e2 <;> cases e2
      | ok k =>
        rw [e2] at q
        exact ⟨k, p.tru e2, Aft.val s' (Aft.seq x q) (PP.scal fun _ => .bl _)⟩
def dIf (tc : Rho → Res Bool) (da db : Rho → Res D) : Rho → Res D := fun ρ => match tc ρ with
  | .ok true => da ρ
  | .ok false => db ρ
  | .exc c p => .exc c p
  | .bad => .bad
theorem ve_if (hc : VT C O c ta) (ha : VM C m O a da) (hb : VM C m O b db) : VM C m O (.IfExp c a b pos) (dIf ta da db) :=
  PE.wk (pe_ifExp hc ha hb) fun σ H Q ⟨B, H0, ρ, s, q⟩ => by
    refine ⟨B, H0, ρ, s, ?_⟩
    unfold dIf at q
    generalize ta ρ = r at q ⊢
    cases r with
    | bad => exact q.elim
    | exc c p => exact q
    | ok k =>
      intro H' x s'
      cases k with
      | true => exact rd_self (fun a n => x.new a n) s' (Aft.seq x q)
      | false => exact rd_self (fun a n => x.new a n) s' (Aft.seq x q)
/-! ### a op b op c -/
def dChain (f g : D → D → Res D) (da db dc : Rho → Res D) : Rho → Res D := fun ρ => (da ρ).bind fun x => (db ρ).bind fun y => (f x y).bind fun z => match z with
  | .bl k => if k = true then (dc ρ).bind fun w => g y w else .ok (.bl false)
  | _ => .bad
theorem chain_rd {f g : D → D → Res D} {r r' : R2} {σ : L2.St} {H : Hp} {Q : VK} (hD : OpD C ma mb .e O f r) (hD' : OpD C mb mc .e O g r') (h : rd C.Θ C.X.mg C.W .e O (dChain f g da db dc) σ H Q) :
    tChain r r' (rd C.Θ C.X.mg C.W ma O da) (rd C.Θ C.X.mg C.W mb O db) (rd C.Θ C.X.mg C.W mc O dc) σ H Q := by
  obtain ⟨B, H0, ρ, s, q⟩ := h
  refine rd_bind nh_refl s q fun d1 v1 H1 x1 s1 p1 q => ?_
  refine rd_bind (fun a n => x1.new a n) s1 q fun d2 v2 H2 x2 s2 p2 q => ?_
  have nh2 : ∀ a, H2 a = none → H a = none := fun a n => x1.new a (x2.new a n)
  refine hD nh2 s2 (p1.ext x2) p2 ?_
  cases e : f d1 d2 with
  | bad => rw [e] at q; exact q.elim
  | exc c p => rw [e] at q; exact q
  | ok z =>
    rw [e] at q
    intro v H3 x3 s3 p3
    have nh3 : ∀ a, H3 a = none → H a = none := fun a n => nh2 a (x3.new a n)
    have q := Aft.seq x3 q
    cases z with
    | bl k =>
      have p3 : Den _ _ _ _ := p3
      cases p3
      refine ⟨k, rfl, ?_⟩
      cases k with
      | false => exact Aft.val s3 q (PP.scal fun _ => .bl _)
      | true => exact rd_bind nh3 s3 q fun d4 v4 H4 x4 s4 p4 q => hD' (fun a n => nh3 a (x4.new a n)) s4 ((p2.ext x3).ext x4) p4 q
    | _ => exact q.elim
theorem ve_chain {op op' : CmpOp} {f g : D → D → Res D} {r r' : R2} (ho : OpR C.X (compareOp op) r) (ho' : OpR C.X (compareOp op') r') (hD : OpD C ma mb .e O f r) (hD' : OpD C mb mc .e O g r') (ha : VM C ma O a da) (hb : VM C mb O b db) (hc : VM C mc O c dc)
    (hm : lastMarks [op, op'] [b, c] = false := by with_unfolding_all rfl) : VM C .e O (.Compare a [op, op'] [b, c] pos) (dChain f g da db dc) :=
  PE.wk (pe_chain ho ho' ha hb hc hm) fun σ H Q h => chain_rd hD hD' h
theorem vt_chain {op op' : CmpOp} {f g : D → D → Res D} {r r' : R2} (ho : OpR C.X (compareOp op) r) (ho' : OpR C.X (compareOp op') r') (hD : OpD C ma mb .e O f r) (hD' : OpD C mb mc .e O g r') (ha : VM C ma O a da) (hb : VM C mb O b db) (hc : VM C mc O c dc)
    (hm : lastMarks [op, op'] [b, c] = false := by with_unfolding_all rfl) : VT C O (.Compare a [op, op'] [b, c] pos) (dTst (dChain f g da db dc)) :=
  PT.wk (pt_chain ho ho' ha hb hc hm) fun σ H Q h => by
    refine chain_rd hD hD' ?_
    obtain ⟨B, H0, ρ, s, q⟩ := h
    refine ⟨B, H0, ρ, s, ?_⟩
    unfold dTst at q
    generalize dChain f g da db dc ρ = ra at q ⊢
    cases ra with
    | bad => exact q.elim
    | exc c p => exact q
    | ok d =>
      intro v H' x s' p
      cases d with
      | bl k =>
        have p : Den _ _ _ _ := p
        cases p with
        | bl => exact ⟨k, rfl, q H' x s'⟩
      | _ => exact q.elim
end
end Dn

namespace Dn
open PySem PySem.Spec L2
open PyProof.Rows hiding St

section
variable {C : Ctx} {m ma mb mc : Mode} {O : List Nat} {e a b c : Expr} {es : List Expr} {den da db dc : Rho → Res D} {pos p p2 : Pos}
variable {B : Addr → Prop} {H0 Hs H : Hp} {ρ : Rho} {σ : L2.St} {d d1 d2 : D} {v1 v2 : V} {Q : VK}
theorem Dens.get' {Θ : Th} {G : Hp} : ∀ {vs : List V} {ds : List D} {i : Nat} {d : D}, Dens Θ G vs ds → ds[i]? = some d → ∃ v, vs[i]? = some v ∧ Den Θ G v d := Dens.get
theorem atI_den {Θ : Th} {G : Hp} {vs : List V} {ds : List D} {k : Int} {d : D} (h : Dens Θ G vs ds) (e : atI ds k = some d) : ∃ v, atI vs k = some v ∧ Den Θ G v d := by
  unfold atI at e ⊢
  rw [h.len]
  cases q : ixN ds.length k with
  | none => rw [q] at e; cases e
  | some j =>
    rw [q] at e
    exact h.get e
/-! ### x[i] -/
def fIx (c x : D) : Res D :=
  match c with
  | .tup xs => match x with
    | .int k => match atI xs k with
      | some d => .ok d
      | none => .bad
    | _ => .bad
  | .lst xs => match x with
    | .int k => match atI xs k with
      | some d => .ok d
      | none => .bad
    | _ => .bad
  | .scr ns => match x with
    | .int k => match atI ns k with
      | some n => .ok (.int n)
      | none => .bad
    | _ => .bad
  | .str z => match x with
    | .int k => if z.length ≤ 16777216 then (match atI z.cps.toList k with
      | some c => .ok (.str ⟨#[c]⟩)
      | none => .bad) else .bad
    | _ => .bad
  | c => match getD c x with
    | some (some d) => .ok d
    | _ => .bad
def isDct : D → Bool
  | .dk _ => true
  | .dt _ => true
  | .lets _ => true
  | _ => false
theorem od_ix : OpD C ma mb .e O (fun c x => if isDct c = true then .bad else fIx c x) (rIx C.X.K) := by
  intro B H0 ρ σ Hs H d1 d2 v1 v2 Q nh s p1 p2 h
  cases d1 with
  | tup xs =>
    cases d2 with
    | int k =>
      obtain ⟨a, vs, rfl, ea, hs⟩ := p1.tup
      have h : Aft _ _ _ _ _ _ _ _ _ _ _ (match atI xs k with | some d => Res.ok d | none => .bad) _ := h
      cases q : atI xs k with
      | none => rw [q] at h; exact h.elim
      | some d =>
        rw [q] at h
        obtain ⟨v, e1, e2⟩ := atI_den hs q
        exact .inr (.inl ⟨a, vs, k, v, rfl, p2.int, SqT.at ea, e1, Aft.val s h e2⟩)
    | _ => exact h.elim
  | lst xs =>
    cases d2 with
    | int k =>
      obtain ⟨a, vs, rfl, ea, hs⟩ := p1.lst
      have h : Aft _ _ _ _ _ _ _ _ _ _ _ (match atI xs k with | some d => Res.ok d | none => .bad) _ := h
      cases q : atI xs k with
      | none => rw [q] at h; exact h.elim
      | some d =>
        rw [q] at h
        obtain ⟨v, e1, e2⟩ := atI_den hs q
        exact .inl ⟨a, vs, k, v, rfl, p2.int, SqL.at ea, e1, Aft.val s h e2⟩
    | _ => exact h.elim
  | scr ns =>
    cases d2 with
    | int k =>
      obtain ⟨a, rfl, ea⟩ := p1.scr
      have h : Aft _ _ _ _ _ _ _ _ _ _ _ (match atI ns k with | some n => Res.ok (D.int n) | none => .bad) _ := h
      cases q : atI ns k with
      | none => rw [q] at h; exact h.elim
      | some n =>
        rw [q] at h
        refine .inl ⟨a, _, k, .int n, rfl, p2.int, C.hK ▸ ea, ?_, Aft.val s h (PP.scal fun _ => .int _)⟩
        unfold atI at q ⊢
        rw [List.length_map]
        cases q2 : ixN ns.length k with
        | none => rw [q2] at q; cases q
        | some j =>
          rw [q2] at q
          have q : ns[j]? = some n := q
          show (ns.map V.int)[j]? = _
          rw [List.getElem?_map, q]
          rfl
    | _ => exact h.elim
  | str z =>
    cases d2 with
    | int k =>
      have h : Aft _ _ _ _ _ _ _ _ _ _ _ (if z.length ≤ 16777216 then (match atI z.cps.toList k with | some c => Res.ok (D.str ⟨#[c]⟩) | none => .bad) else .bad) _ := h
      obtain ⟨hz, h⟩ := Aft.ite h
      cases q : atI z.cps.toList k with
      | none => rw [q] at h; exact h.elim
      | some c =>
        rw [q] at h
        exact .inr (.inr ⟨z, k, c, p1.str, p2.int, by rw [sl24]; exact hz, q, Aft.val s h (PP.scal fun _ => .str _)⟩)
    | _ => exact h.elim
  | _ => exact h.elim
theorem PE.or {X : Cx} {e : Expr} {t t' : TE} (h : PE X e t) (h' : PE X e t') : PE X e (fun σ H Q => t σ H Q ∨ t' σ H Q) := ⟨fun pins s σ H Q I q => q.elim (h.run pins s σ H Q I) (h'.run pins s σ H Q I)⟩
theorem ve_ix (ha : VM C ma O a da) (hb : VM C mb O b db) (hs : PlainIx b := by exact fun _ _ => rfl) : VM C .e O (.Subscript a b pos) (dBin fIx da db) :=
  PE.wk (PE.or (pe_ix ix_seq ha hb hs) (pe_dget (by have := C.units; omega) ha hb hs)) fun σ H Q ⟨B, H0, ρ, s, q⟩ => by
    by_cases hc : ∃ d, da ρ = .ok d ∧ isDct d = true
    · obtain ⟨d1, e1, hc⟩ := hc
      refine .inr ⟨B, H0, ρ, s, ?_⟩
      unfold dBin at q
      rw [e1, Res.bind_ok] at q
      rw [e1]
      intro v H' x s' p
      refine rd_bind (m := .e) (fun a n => x.new a n) s' (Aft.seq x q) fun d2 v2 H2 x2 s2 p2 q => ?_
      have hq : fIx d1 d2 = match getD d1 d2 with | some (some d) => Res.ok d | _ => .bad := by
        cases d1 <;> first | rfl | cases hc
      rw [hq] at q
      cases e : getD d1 d2 with
      | none => rw [e] at q; exact q.elim
      | some o =>
        rw [e] at q
        cases o with
        | none => exact q.elim
        | some d3 =>
          obtain ⟨a, ov, rfl, hg, hb⟩ := PP.dget (p.ext x2) p2 e
          cases ov with
          | none => exact hb.elim
          | some v3 => exact ⟨a, v3, rfl, hg, Aft.val s2 q hb⟩
    · refine .inl (bin_rd od_ix ⟨B, H0, ρ, s, ?_⟩)
      unfold dBin at q ⊢
      cases e : da ρ with
      | bad => rw [e] at q; exact q.elim
      | exc c p => rw [e] at q; exact q
      | ok d =>
        rw [e] at q
        have : ¬ isDct d = true := fun z => hc ⟨d, e, z⟩
        simp only [Res.bind_ok, this, if_false] at q ⊢
        exact q

/-! ### x[lo:hi] -/
def cutX {α : Type} (xs : List α) (lo hi : Option Int) : List α := (xs.drop (HT.sIx xs.length 0 lo)).take (HT.sIx xs.length xs.length hi - HT.sIx xs.length 0 lo)
theorem Dens.take {Θ : Th} {G : Hp} : ∀ {vs : List V} {ds : List D} (n : Nat), Dens Θ G vs ds → Dens Θ G (vs.take n) (ds.take n)
  | _, _, 0, _ => by simp only [List.take_zero]; exact .nil
  | _, _, _ + 1, .nil => by simp only [List.take_nil]; exact .nil
  | _, _, n + 1, .cons h t => by simp only [List.take_succ_cons]; exact .cons h (Dens.take n t)
theorem Dens.drop {Θ : Th} {G : Hp} : ∀ {vs : List V} {ds : List D} (n : Nat), Dens Θ G vs ds → Dens Θ G (vs.drop n) (ds.drop n)
  | _, _, 0, h => h
  | _, _, _ + 1, .nil => by simp only [List.drop_nil]; exact .nil
  | _, _, n + 1, .cons h t => by simp only [List.drop_succ_cons]; exact Dens.drop n t
theorem Dens.cutX {Θ : Th} {G : Hp} {vs : List V} {ds : List D} (lo hi : Option Int) (h : Dens Θ G vs ds) : Dens Θ G (cutV vs lo hi) (Dn.cutX ds lo hi) := by
  unfold cutV Dn.cutX
  rw [h.len]
  exact (h.drop _).take _
def fSl (d : D) (lo hi : Option Int) : Res D :=
  match d with
  | .tup xs => .ok (.tup (cutX xs lo hi))
  | .lst xs => .ok (.lst (cutX xs lo hi))
  | .str z => if z.length ≤ 16777216 then .ok (.str (cutS z lo hi)) else .bad
  | _ => .bad
/-- a slice's part -/
abbrev RhoO := Rho → Res (Option Int)
def AftO (Θ : Th) (mg : Str → Option Value) (W : WX) (B : Addr → Prop) (H0 : Hp) (O : List Nat) (ρ : Rho) (σ : L2.St) (H : Hp) (r : Res (Option Int)) (Q : Option Int → Hp → Prop) : Prop :=
  match r with
  | .ok b => ∀ H', Ext Θ (Hd B σ O) H H' → Stt Θ B H0 O ρ σ H' → Q b H'
  | .exc c p => ∀ cls dd H', Ext Θ (Hd B σ O) H H' → Stt Θ B H0 O ρ σ H' → ExcOk Θ mg H' c p cls dd → W cls dd σ H'
  | .bad => False
def rdO (Θ : Th) (mg : Str → Option Value) (W : WX) (O : List Nat) (den : RhoO) : TO := fun σ H Q => ∃ B H0 ρ, Stt Θ B H0 O ρ σ H ∧ AftO Θ mg W B H0 O ρ σ H (den ρ) Q
abbrev VO (C : Ctx) (O : List Nat) (e : Option Expr) (den : RhoO) : Prop := PO C.X e (rdO C.Θ C.X.mg C.W O den)
def dNoPart : RhoO := fun _ => .ok none
def dPart (da : Rho → Res D) : RhoO := fun ρ => (da ρ).bind fun x => match x with
  | .int i => .ok (some i)
  | _ => .bad
theorem vo_none : VO C O none dNoPart := ⟨fun pins s σ H Q I ⟨B, H0, ρ, st, q⟩ => po_none.run pins s σ H Q I (q H .refl st)⟩
theorem vo_some (h : VM C .e O e da) : VO C O (some e) (dPart da) := ⟨fun pins s σ H Q I ⟨B, H0, ρ, st, q⟩ => (po_some h).run pins s σ H Q I (by
  refine ⟨B, H0, ρ, st, ?_⟩
  unfold dPart at q
  generalize da ρ = r at q ⊢
  cases r with
  | bad => exact q.elim
  | exc c p => exact q
  | ok d =>
    intro v H' x s' p
    cases d with
    | int i => exact ⟨i, p.int, q H' x s'⟩
    | _ => exact q.elim)⟩
def dSl (da : Rho → Res D) (lo hi : RhoO) : Rho → Res D := fun ρ => (da ρ).bind fun x => (lo ρ).bind fun l => (hi ρ).bind fun h => fSl x l h
theorem rdO_bind {Θ : Th} {mg : Str → Option Value} {W : WX} {f : Option Int → Res D} {do' : RhoO} {T : VK} {R : Option Int → Hp → Prop} {Hs : Hp}
    (s : Stt Θ B H0 O ρ σ H) (h : Aft Θ mg W m B H0 O ρ σ Hs H ((do' ρ).bind f) T) (k : ∀ o H', Ext Θ (Hd B σ O) H H' → Stt Θ B H0 O ρ σ H' → Aft Θ mg W m B H0 O ρ σ Hs H' (f o) T → R o H') : rdO Θ mg W O do' σ H R := by
  refine ⟨B, H0, ρ, s, ?_⟩
  generalize do' ρ = r at h ⊢
  cases r with
  | bad => exact h.elim
  | exc c p => exact h
  | ok d => exact fun H' x s' => k d H' x s' (Aft.seq x h)
theorem cutX_all {ds : List D} {lo hi : Option Int} (h : HT.sIx ds.length 0 lo = 0 ∧ HT.sIx ds.length ds.length hi = ds.length) : cutX ds lo hi = ds := by
  unfold cutX
  rw [h.1, h.2]
  simp
theorem ve_slice {lo hi : Option Expr} {dl dh : RhoO} (ha : VM C ma O a da) (hl : VO C O lo dl) (hh : VO C O hi dh) : VM C .e O (.Subscript a (.Slice lo hi none p2) pos) (dSl da dl dh) :=
  PE.wk (pe_slice (sl_tupA.or (sl_list.or sl_str)) ha hl hh) fun σ H Q ⟨B, H0, ρ, s, q⟩ => by
    refine rd_bind nh_refl s q fun d v H1 x1 s1 p1 q => ?_
    refine rdO_bind s1 q fun l H2 x2 s2 q => ?_
    refine rdO_bind s2 q fun u H3 x3 s3 q => ?_
    have p3 := (p1.ext x2).ext x3
    have nh : ∀ a, H3 a = none → H a = none := fun a n => x1.new a (x2.new a (x3.new a n))
    cases d with
    | tup xs =>
      obtain ⟨a, vs, rfl, ea, hs⟩ := p3.tup
      refine .inl ⟨a, vs, rfl, SqT.at ea, fun e => ?_, fun _ p n => Aft.newT s3 n (hs.cutX l u) q⟩
      have e' := e
      rw [hs.len] at e'
      have q' : Aft _ _ _ _ _ _ _ _ _ _ _ (Res.ok (.tup (cutX xs l u))) _ := q
      rw [cutX_all e'] at q'
      exact Aft.val s3 q' p3.te
    | lst xs =>
      obtain ⟨a, vs, rfl, ea, hs⟩ := p3.lst
      exact .inr (.inl ⟨a, vs, rfl, SqL.at ea, fun p n => Aft.newL nh s3 n (hs.cutX l u) (Aft.fe q)⟩)
    | str z =>
      obtain ⟨hz, q⟩ := Aft.ite q
      exact .inr (.inr ⟨z, p3.str, by rw [sl24]; exact hz, Aft.val s3 q (PP.scal fun _ => .str _)⟩)
    | _ => exact q.elim

/-! ### rows of expressions, displays -/
theorem Dens.shows' {Θ : Th} {G H H' G' : Hp} (x : Shows Θ G H G' H') {vs : List V} {ds : List D} (h : Dens Θ G vs ds) : Dens Θ G' vs ds := Dens.shows x h
def AftL (Θ : Th) (mg : Str → Option Value) (W : WX) (B : Addr → Prop) (H0 : Hp) (O : List Nat) (ρ : Rho) (σ : L2.St) (H : Hp) (r : Res (List D)) (Q : List V → Hp → Prop) : Prop :=
  match r with
  | .ok ds => ∀ vs H', Ext Θ (Hd B σ O) H H' → Stt Θ B H0 O ρ σ H' → Dens Θ (hid B σ O H') vs ds → Q vs H'
  | .exc c p => ∀ cls dd H', Ext Θ (Hd B σ O) H H' → Stt Θ B H0 O ρ σ H' → ExcOk Θ mg H' c p cls dd → W cls dd σ H'
  | .bad => False
theorem AftL.seq {Θ : Th} {mg : Str → Option Value} {W : WX} {H H' : Hp} {r : Res (List D)} {Q : List V → Hp → Prop} (x : Ext Θ (Hd B σ O) H H') (h : AftL Θ mg W B H0 O ρ σ H r Q) : AftL Θ mg W B H0 O ρ σ H' r Q := by
  cases r with
  | ok d => exact fun vs H'' y s p => h vs H'' (x.trans y) s p
  | exc c p => exact fun cls dd H'' y s e => h cls dd H'' (x.trans y) s e
  | bad => exact h
def rdL (Θ : Th) (mg : Str → Option Value) (W : WX) (O : List Nat) (den : Rho → Res (List D)) : TA := fun σ H Q => ∃ B H0 ρ, Stt Θ B H0 O ρ σ H ∧ AftL Θ mg W B H0 O ρ σ H (den ρ) Q
abbrev VL (C : Ctx) (O : List Nat) (es : List Expr) (den : Rho → Res (List D)) : Prop := PA C.X es (rdL C.Θ C.X.mg C.W O den)
def dNil : Rho → Res (List D) := fun _ => .ok []
def dCons (da : Rho → Res D) (dr : Rho → Res (List D)) : Rho → Res (List D) := fun ρ => (da ρ).bind fun x => (dr ρ).bind fun xs => .ok (x :: xs)
/-- the items of a list or tuple -/
def itemsD : D → Res (List D)
  | .tup xs => .ok xs
  | .lst xs => .ok xs
  | _ => .bad
def dStar (da : Rho → Res D) (dr : Rho → Res (List D)) : Rho → Res (List D) := fun ρ => (da ρ).bind fun x => (itemsD x).bind fun ys => (dr ρ).bind fun xs => .ok (ys ++ xs)
theorem vl_nil : VL C O [] dNil := PA.wk pa_nil fun σ H Q ⟨B, H0, ρ, s, q⟩ => q [] H .refl s .nil
variable {dr : Rho → Res (List D)}
theorem vl_cons (ha : VM C .e O e da) (hr : VL C O es dr) (hs : starEach (e :: es) C.X.env = (false, eval e C.X.env) :: starEach es C.X.env := by rfl) : VL C O (e :: es) (dCons da dr) :=
  PA.wk (pa_cons ha hr hs) fun σ H Q ⟨B, H0, ρ, s, q⟩ => by
    refine ⟨B, H0, ρ, s, ?_⟩
    unfold dCons at q
    generalize da ρ = r at q ⊢
    cases r with
    | bad => exact q.elim
    | exc c p => exact q
    | ok d =>
      intro v H1 x1 s1 p1
      refine ⟨B, H0, ρ, s1, ?_⟩
      rw [Res.bind_ok] at q
      have q := AftL.seq x1 q
      generalize dr ρ = r2 at q ⊢
      cases r2 with
      | bad => exact q.elim
      | exc c p => exact q
      | ok ds => exact fun vs H2 x2 s2 p2 => q _ H2 x2 s2 (.cons (Den.shows (shows_hid x2) p1) p2)
theorem vl_star (ha : VM C ma O e da) (hr : VL C O es dr) (hs : starEach (.Starred e p :: es) C.X.env = (true, eval e C.X.env) :: starEach es C.X.env := by rfl) : VL C O (.Starred e p :: es) (dStar da dr) :=
  PA.wk (StX.pa_star ha hr hs) fun σ H Q ⟨B, H0, ρ, s, q⟩ => by
    refine ⟨B, H0, ρ, s, ?_⟩
    unfold dStar at q
    generalize da ρ = r at q ⊢
    cases r with
    | bad => exact q.elim
    | exc c p => exact q
    | ok d =>
      intro v H1 x1 s1 p1
      rw [Res.bind_ok] at q
      have q := AftL.seq x1 q
      have fin : ∀ {vs : List V} {ys : List D}, Dens C.Θ (hid B σ O H1) vs ys → AftL C.Θ C.X.mg C.W B H0 O ρ σ H1 ((dr ρ).bind fun xs => .ok (ys ++ xs)) Q → rdL C.Θ C.X.mg C.W O dr σ H1 fun ws H2 => Q (vs ++ ws) H2 := fun {vs ys} hs q => by
        refine ⟨B, H0, ρ, s1, ?_⟩
        generalize dr ρ = r2 at q ⊢
        cases r2 with
        | bad => exact q.elim
        | exc c p => exact q
        | ok ds => exact fun ws H2 x2 s2 p2 => q _ H2 x2 s2 ((Dens.shows (shows_hid x2) hs).append p2)
      cases d with
      | tup xs =>
        obtain ⟨a, vs, rfl, ea, hs⟩ := p1.tup
        exact ⟨a, vs, rfl, .inl (SqT.at ea), fin hs q⟩
      | lst xs =>
        obtain ⟨a, vs, rfl, ea, hs⟩ := p1.lst
        exact ⟨a, vs, rfl, .inr (SqL.at ea), fin hs q⟩
      | _ => exact q.elim
def dTup (dr : Rho → Res (List D)) : Rho → Res D := fun ρ => (dr ρ).bind fun xs => if xs.length ≤ 16777216 then .ok (.tup xs) else .bad
def dLst (dr : Rho → Res (List D)) : Rho → Res D := fun ρ => (dr ρ).bind fun xs => if xs.length ≤ 16777216 then .ok (.lst xs) else .bad
theorem rdL_bind {Θ : Th} {mg : Str → Option Value} {W : WX} {f : List D → Res D} {T : VK} {R : List V → Hp → Prop} {Hs : Hp}
    (s : Stt Θ B H0 O ρ σ H) (h : Aft Θ mg W m B H0 O ρ σ Hs H ((dr ρ).bind f) T) (k : ∀ ds vs H', Ext Θ (Hd B σ O) H H' → Stt Θ B H0 O ρ σ H' → Dens Θ (hid B σ O H') vs ds → Aft Θ mg W m B H0 O ρ σ Hs H' (f ds) T → R vs H') : rdL Θ mg W O dr σ H R := by
  refine ⟨B, H0, ρ, s, ?_⟩
  generalize dr ρ = r at h ⊢
  cases r with
  | bad => exact h.elim
  | exc c p => exact h
  | ok d => exact fun v H' x s' p => k d v H' x s' p (Aft.seq x h)
theorem ve_tup {x1} (h : VL C O es dr) : VM C .e O (.Tuple es x1 pos) (dTup dr) :=
  PE.wk (pe_tup h) fun σ H Q ⟨B, H0, ρ, s, q⟩ => rdL_bind s q fun ds vs H' x s' p q => by
    obtain ⟨hz, q⟩ := Aft.ite q
    exact ⟨by rw [sl24, p.len]; exact hz, fun a n => Aft.newT s' n p q⟩
theorem vf_lst (h : VL C O es dr) : VM C .f O (.List es pos) (dLst dr) :=
  PE.wk (pe_lst h) fun σ H Q ⟨B, H0, ρ, s, q⟩ => rdL_bind s q fun ds vs H' x s' p q => by
    obtain ⟨hz, q⟩ := Aft.ite q
    exact ⟨by rw [sl24, p.len]; exact hz, fun a n => Aft.newL (fun a n => x.new a n) s' n p q⟩
end
end Dn

namespace Dn
open PySem PySem.Spec L2
open PyProof.Rows hiding St

section
variable {C : Ctx} {m ma mb mc : Mode} {O : List Nat} {e a b c : Expr} {es : List Expr} {den da db dc : Rho → Res D} {pos p p2 apos : Pos} {dr : Rho → Res (List D)}
variable {B : Addr → Prop} {H0 Hs H : Hp} {ρ : Rho} {σ : L2.St} {d d1 d2 : D} {v1 v2 : V} {Q : VK} {x : Str}
/-! ### built-ins of one argument, of two -/
def CallD1 (C : Ctx) (ma m : Mode) (O : List Nat) (f : D → Res D) (r : List V → Hp → VK → Prop) : Prop :=
  ∀ {B H0 ρ σ Hs H d1 v1 Q}, (∀ a, H a = none → Hs a = none) → Stt C.Θ B H0 O ρ σ H → PP C.Θ ma B σ O Hs H d1 v1 → Aft C.Θ C.X.mg C.W m B H0 O ρ σ Hs H (f d1) Q → r [v1] H Q
theorem call1_rd {f : D → Res D} {r : List V → Hp → VK → Prop} (hD : CallD1 C ma m O f r) {σ : L2.St} {H : Hp} {Q : VK} (h : rd C.Θ C.X.mg C.W m O (dUn f da) σ H Q) : tCB r (tCons (rd C.Θ C.X.mg C.W ma O da) tNil) σ H Q := by
  obtain ⟨B, H0, ρ, s, q⟩ := h
  exact rd_bind nh_refl s q fun d v H' x s' p q => hD (fun a n => x.new a n) s' p q
theorem ve_callB {id : String} {f : D → Res D} {r : List V → Hp → VK → Prop} (hc : CallR C.X (.builtin id) r) (hD : CallD1 C ma m O f r) (hm : C.X.mg x = none) (ha : VM C ma O a da) (hv : bootBuiltins x = some (.builtin id) := by decide +kernel) (hg : Gl C.X x := by rfl)
    (hn : x ≠ "__name__" := by decide) (hdb : (x == ("__debug__" : Str)) = false := by decide) (hs : starEach (a :: []) C.X.env = (false, eval a C.X.env) :: starEach [] C.X.env := by rfl) (hpl : (backTo pos (starEach [] C.X.env)).any (·.1) = false := by rfl) : VM C m O (.Call (.Name x p) [a] [] pos) (dUn f da) :=
  PE.wk (pe_callB hc hg hm hv (pa_cons ha pa_nil hs) hn hdb hs hpl) fun σ H Q h => call1_rd hD h
theorem ve_callTy {T : String} {f : D → Res D} {r : List V → Hp → VK → Prop} (hc : CallR C.X (.type T) r) (hD : CallD1 C ma m O f r) (hm : C.X.mg x = none) (ha : VM C ma O a da) (hv : bootBuiltins x = some (.type T) := by decide +kernel) (hg : Gl C.X x := by rfl)
    (hn : x ≠ "__name__" := by decide) (hdb : (x == ("__debug__" : Str)) = false := by decide) (hs : starEach (a :: []) C.X.env = (false, eval a C.X.env) :: starEach [] C.X.env := by rfl) (hpl : (backTo pos (starEach [] C.X.env)).any (·.1) = false := by rfl) : VM C m O (.Call (.Name x p) [a] [] pos) (dUn f da) :=
  PE.wk (pe_callTy hc hg hm hv (pa_cons ha pa_nil hs) hn hdb hs hpl) fun σ H Q h => call1_rd hD h

/-! ### len -/
def fLen : D → Res D
  | .tup xs => .ok (.int xs.length)
  | .lst xs => .ok (.int xs.length)
  | .scr ns => .ok (.int ns.length)
  | .str z => if z.length ≤ 16777216 then .ok (.int z.length) else .bad
  | .dk es => .ok (.int es.length)
  | .dt es => .ok (.int es.length)
  | _ => .bad
def rLenA (K : PySem.W.Frag) : List V → Hp → VK → Prop := fun xs H Q => (∃ x n, xs = [x] ∧ LenV K x H n ∧ Q (.int n) H) ∨ ((∃ a kvs, xs = [V.ref a] ∧ H a = some (.dK kvs) ∧ Q (.int kvs.length) H) ∨ rLenT xs H Q)
theorem call_lenA {X : Cx} : CallR X (.builtin "len") (rLenA X.K) := call_len.or (call_lenD.or call_len_dT)
theorem cd_len : CallD1 C ma .e O fLen (rLenA C.X.K) := by
  intro B H0 ρ σ Hs H d v Q nh s p h
  cases d with
  | tup xs =>
    obtain ⟨a, vs, rfl, ea, hs⟩ := p.tup
    exact .inl ⟨_, _, rfl, .inr ⟨vs, SqT.at ea, hs.len.symm⟩, Aft.val s h (PP.scal fun _ => .int _)⟩
  | lst xs =>
    obtain ⟨a, vs, rfl, ea, hs⟩ := p.lst
    exact .inl ⟨_, _, rfl, .inl ⟨vs, SqL.at ea, hs.len.symm⟩, Aft.val s h (PP.scal fun _ => .int _)⟩
  | scr ns =>
    obtain ⟨a, rfl, ea⟩ := p.scr
    exact .inl ⟨_, _, rfl, .inl ⟨_, C.hK ▸ ea, (List.length_map _).symm⟩, Aft.val s h (PP.scal fun _ => .int _)⟩
  | str z =>
    obtain ⟨hz, h⟩ := Aft.ite h
    cases p.str
    exact .inl ⟨_, _, rfl, ⟨by rw [sl24]; exact hz, rfl⟩, Aft.val s h (PP.scal fun _ => .int _)⟩
  | dk es =>
    obtain ⟨a, kvs, rfl, ea, ek, hs⟩ := p.dk
    have e := congrArg List.length ek
    rw [List.length_map, List.length_map] at e
    refine .inr (.inl ⟨a, kvs, rfl, ea, ?_⟩)
    rw [e]
    exact Aft.val s h (PP.scal fun _ => .int _)
  | dt es =>
    obtain ⟨a, kvs, rfl, ea, ek, hs⟩ := p.dt
    have e := congrArg List.length ek
    rw [List.length_map, List.length_map] at e
    refine .inr (.inr ⟨a, kvs, rfl, ea, ?_⟩)
    rw [e]
    exact Aft.val s h (PP.scal fun _ => .int _)
  | _ => exact h.elim
theorem ve_len (hm : C.X.mg "len" = none) (ha : VM C ma O a da) (hg : Gl C.X "len" := by rfl) (hs : starEach (a :: []) C.X.env = (false, eval a C.X.env) :: starEach [] C.X.env := by rfl) (hpl : (backTo pos (starEach [] C.X.env)).any (·.1) = false := by rfl) :
    VM C .e O (.Call (.Name "len" p) [a] [] pos) (dUn fLen da) := ve_callB call_lenA cd_len hm ha PySem.boot_len hg (by decide) (by decide) hs hpl

/-! ### tuple(x), list(x) -/
def fTuple : D → Res D
  | .tup xs => .ok (.tup xs)
  | .lst xs => .ok (.tup xs)
  | _ => .bad
def fList : D → Res D
  | .tup xs => .ok (.lst xs)
  | .lst xs => .ok (.lst xs)
  | _ => .bad
theorem cd_tuple : CallD1 C ma .e O fTuple (fun xs H Q => ∃ p ys, xs = [.ref p] ∧ ((SqL C.X.K H p ys ∧ ∀ l, H l = none → Q (.ref l) (upd H l (.tup ys))) ∨ (SqT C.X.K H p ys ∧ Q (.ref p) H))) := by
  intro B H0 ρ σ Hs H d v Q nh s p h
  cases d with
  | tup xs =>
    have pe := p.te
    obtain ⟨a, vs, rfl, ea, hs⟩ := p.tup
    exact ⟨a, vs, rfl, .inr ⟨SqT.at ea, Aft.val s h pe⟩⟩
  | lst xs =>
    obtain ⟨a, vs, rfl, ea, hs⟩ := p.lst
    exact ⟨a, vs, rfl, .inl ⟨SqL.at ea, fun l n => Aft.newT s n hs h⟩⟩
  | _ => exact h.elim
theorem cd_list : CallD1 C ma .f O fList (fun xs H Q => ∃ p ys, xs = [.ref p] ∧ (SqL C.X.K H p ys ∨ SqT C.X.K H p ys) ∧ ∀ l, H l = none → Q (.ref l) (upd H l (.lst ys))) := by
  intro B H0 ρ σ Hs H d v Q nh s p h
  cases d with
  | tup xs =>
    obtain ⟨a, vs, rfl, ea, hs⟩ := p.tup
    exact ⟨a, vs, rfl, .inr (SqT.at ea), fun l n => Aft.newL nh s n hs h⟩
  | lst xs =>
    obtain ⟨a, vs, rfl, ea, hs⟩ := p.lst
    exact ⟨a, vs, rfl, .inl (SqL.at ea), fun l n => Aft.newL nh s n hs h⟩
  | _ => exact h.elim
theorem ve_tuple (hm : C.X.mg "tuple" = none) (ha : VM C ma O a da) (hg : Gl C.X "tuple" := by rfl) (hs : starEach (a :: []) C.X.env = (false, eval a C.X.env) :: starEach [] C.X.env := by rfl) (hpl : (backTo pos (starEach [] C.X.env)).any (·.1) = false := by rfl) :
    VM C .e O (.Call (.Name "tuple" p) [a] [] pos) (dUn fTuple da) := ve_callTy call_tuple_of cd_tuple hm ha (by decide +kernel) hg (by decide) (by decide) hs hpl
theorem vf_list (hm : C.X.mg "list" = none) (ha : VM C ma O a da) (hg : Gl C.X "list" := by rfl) (hs : starEach (a :: []) C.X.env = (false, eval a C.X.env) :: starEach [] C.X.env := by rfl) (hpl : (backTo pos (starEach [] C.X.env)).any (·.1) = false := by rfl) :
    VM C .f O (.Call (.Name "list" p) [a] [] pos) (dUn fList da) := ve_callTy call_list_of cd_list hm ha (by decide +kernel) hg (by decide) (by decide) hs hpl

/-! ### all, any of a list of bools -/
def blsD : List D → Option (List Bool)
  | [] => some []
  | .bl b :: ds => (blsD ds).map (b :: ·)
  | _ :: _ => none
theorem Dens.bls {Θ : Th} {G : Hp} : ∀ {vs : List V} {ds : List D} {bs : List Bool}, Dens Θ G vs ds → blsD ds = some bs → vs = bs.map V.bl
  | _, _, _, .nil, h => by cases h; rfl
  | _, d :: ds, bs, .cons h1 h2, h => by
    cases h1 with
    | bl b =>
      have h : (blsD ds).map (b :: ·) = some bs := h
      cases e : blsD ds with
      | none => rw [e] at h; cases h
      | some r =>
        rw [e] at h
        cases h
        rw [List.map_cons, Dens.bls h2 e]
    | _ => cases h
def fAll : D → Res D
  | .lst xs => match blsD xs with
    | some bs => .ok (.bl (bs.all id))
    | none => .bad
  | _ => .bad
def fAny : D → Res D
  | .lst xs => match blsD xs with
    | some bs => .ok (.bl (bs.any id))
    | none => .bad
  | _ => .bad
theorem cd_all : CallD1 C ma .e O fAll (rAll C.X.K) := by
  intro B H0 ρ σ Hs H d v Q nh s p h
  cases d with
  | lst xs =>
    obtain ⟨a, vs, rfl, ea, hs⟩ := p.lst
    have h : Aft _ _ _ _ _ _ _ _ _ _ _ (match blsD xs with | some bs => Res.ok (.bl (bs.all id)) | none => .bad) _ := h
    cases e : blsD xs with
    | none => rw [e] at h; exact h.elim
    | some bs =>
      rw [e] at h
      have := hs.bls e
      subst this
      exact ⟨a, bs, rfl, SqL.at ea, Aft.val s h (PP.scal fun _ => .bl _)⟩
  | _ => exact h.elim
theorem cd_any : CallD1 C ma .e O fAny (rAny C.X.K) := by
  intro B H0 ρ σ Hs H d v Q nh s p h
  cases d with
  | lst xs =>
    obtain ⟨a, vs, rfl, ea, hs⟩ := p.lst
    have h : Aft _ _ _ _ _ _ _ _ _ _ _ (match blsD xs with | some bs => Res.ok (.bl (bs.any id)) | none => .bad) _ := h
    cases e : blsD xs with
    | none => rw [e] at h; exact h.elim
    | some bs =>
      rw [e] at h
      have := hs.bls e
      subst this
      exact ⟨a, bs, rfl, SqL.at ea, Aft.val s h (PP.scal fun _ => .bl _)⟩
  | _ => exact h.elim
theorem ve_all (hm : C.X.mg "all" = none) (ha : VM C ma O a da) (hg : Gl C.X "all" := by rfl) (hs : starEach (a :: []) C.X.env = (false, eval a C.X.env) :: starEach [] C.X.env := by rfl) (hpl : (backTo pos (starEach [] C.X.env)).any (·.1) = false := by rfl) :
    VM C .e O (.Call (.Name "all" p) [a] [] pos) (dUn fAll da) := ve_callB (cr_all C.calm) cd_all hm ha (by decide +kernel) hg (by decide) (by decide) hs hpl
theorem ve_any (hm : C.X.mg "any" = none) (ha : VM C ma O a da) (hg : Gl C.X "any" := by rfl) (hs : starEach (a :: []) C.X.env = (false, eval a C.X.env) :: starEach [] C.X.env := by rfl) (hpl : (backTo pos (starEach [] C.X.env)).any (·.1) = false := by rfl) :
    VM C .e O (.Call (.Name "any" p) [a] [] pos) (dUn fAny da) := ve_callB (cr_any C.calm) cd_any hm ha (by decide +kernel) hg (by decide) (by decide) hs hpl

/-! ### abs, int, str -/
def fAbs : D → Res D
  | .int i => .ok (.int (if i < 0 then -i else i))
  | _ => .bad
def fInt : D → Res D
  | .int i => .ok (.int i)
  | .bl k => .ok (.int (if k then 1 else 0))
  | .str a => match PySem.intText? a with
    | some n => if a.length ≤ 640 then .ok (.int n) else .bad
    | none => .bad
  | _ => .bad
def fStr : D → Res D
  | .int i => if i.natAbs.log2 < 1920 then .ok (.str (toString i : String)) else .bad
  | _ => .bad
theorem cd_abs : CallD1 C ma .e O fAbs (fun xs H Q => ∃ i, xs = [.int i] ∧ Q (.int (if i < 0 then -i else i)) H) := by
  intro B H0 ρ σ Hs H d v Q nh s p h
  cases d with
  | int i => cases p.int; exact ⟨i, rfl, Aft.val s h (PP.scal fun _ => .int _)⟩
  | _ => exact h.elim
def rIntA : List V → Hp → VK → Prop := fun xs H Q => ((∃ i, xs = [.int i] ∧ Q (.int i) H) ∨ ∃ k, xs = [.bl k] ∧ Q (.int (if k then 1 else 0)) H) ∨ ∃ a n, xs = [.str a] ∧ PySem.intText? a = some n ∧ a.length ≤ 640 ∧ Q (.int n) H
theorem call_intA {X : Cx} : CallR X (.type "int") rIntA := call_int1.or call_int_str
theorem cd_int : CallD1 C ma .e O fInt rIntA := by
  intro B H0 ρ σ Hs H d v Q nh s p h
  cases d with
  | int i => cases p.int; exact .inl (.inl ⟨i, rfl, Aft.val s h (PP.scal fun _ => .int _)⟩)
  | bl k => cases p.bl; exact .inl (.inr ⟨k, rfl, Aft.val s h (PP.scal fun _ => .int _)⟩)
  | str a =>
    cases p.str
    have h : Aft _ _ _ _ _ _ _ _ _ _ _ (match PySem.intText? a with | some n => if a.length ≤ 640 then Res.ok (.int n) else .bad | none => .bad) _ := h
    cases e : PySem.intText? a with
    | none => rw [e] at h; exact h.elim
    | some n =>
      rw [e] at h
      obtain ⟨hz, h⟩ := Aft.ite h
      exact .inr ⟨a, n, rfl, e, hz, Aft.val s h (PP.scal fun _ => .int _)⟩
  | _ => exact h.elim
theorem cd_str : CallD1 C ma .e O fStr (fun xs H Q => ∃ i, xs = [.int i] ∧ i.natAbs.log2 < 1920 ∧ Q (.str (toString i : String)) H) := by
  intro B H0 ρ σ Hs H d v Q nh s p h
  cases d with
  | int i =>
    cases p.int
    obtain ⟨hz, h⟩ := Aft.ite h
    exact ⟨i, rfl, hz, Aft.val s h (PP.scal fun _ => .str _)⟩
  | _ => exact h.elim
theorem ve_abs (hm : C.X.mg "abs" = none) (ha : VM C ma O a da) (hg : Gl C.X "abs" := by rfl) (hs : starEach (a :: []) C.X.env = (false, eval a C.X.env) :: starEach [] C.X.env := by rfl) (hpl : (backTo pos (starEach [] C.X.env)).any (·.1) = false := by rfl) :
    VM C .e O (.Call (.Name "abs" p) [a] [] pos) (dUn fAbs da) := ve_callB call_abs cd_abs hm ha (by decide +kernel) hg (by decide) (by decide) hs hpl
theorem ve_toInt (hm : C.X.mg "int" = none) (ha : VM C ma O a da) (hg : Gl C.X "int" := by rfl) (hs : starEach (a :: []) C.X.env = (false, eval a C.X.env) :: starEach [] C.X.env := by rfl) (hpl : (backTo pos (starEach [] C.X.env)).any (·.1) = false := by rfl) :
    VM C .e O (.Call (.Name "int" p) [a] [] pos) (dUn fInt da) := ve_callTy call_intA cd_int hm ha (by decide +kernel) hg (by decide) (by decide) hs hpl
theorem ve_toStr (hm : C.X.mg "str" = none) (ha : VM C ma O a da) (hg : Gl C.X "str" := by rfl) (hs : starEach (a :: []) C.X.env = (false, eval a C.X.env) :: starEach [] C.X.env := by rfl) (hpl : (backTo pos (starEach [] C.X.env)).any (·.1) = false := by rfl) :
    VM C .e O (.Call (.Name "str" p) [a] [] pos) (dUn fStr da) := ve_callTy call_str_int cd_str hm ha (by decide +kernel) hg (by decide) (by decide) hs hpl
end
end Dn

namespace Dn
open PySem PySem.Spec L2
open PyProof.Rows hiding St

section
variable {C : Ctx} {m ma mb mc : Mode} {O O' : List Nat} {e a b c : Expr} {es : List Expr} {den da db dc : Rho → Res D} {pos p p2 apos : Pos} {dr : Rho → Res (List D)}
variable {B : Addr → Prop} {H0 Hs H : Hp} {ρ ρ' : Rho} {σ σ' : L2.St} {d d1 d2 : D} {v1 v2 : V} {Q : VK} {x : Str}
/-! ### isinstance(x, T), T a built-in type -/
def tyN : D → Option String
  | .non => some "NoneType"
  | .bl _ => some "bool"
  | .int _ => some "int"
  | .str _ => some "str"
  | .tup _ => some "tuple"
  | .lst _ => some "list"
  | .dk _ => some "dict"
  | .dt _ => some "dict"
  | _ => none
def isB (T t : String) : Bool := t == T || (t == "bool" && T == "int")
def fIsi (T : String) (d : D) : Res D := match tyN d with
  | some t => .ok (.bl (isB T t))
  | none => .bad
def kitOk (T : String) : Bool := ["NoneType", "bool", "int", "str", "tuple", "list", "dict"].all fun t => kitB t T == some (isB T t)
theorem PP.ty {Θ : Th} {K : PySem.W.Frag} {t : String} (hp : PP Θ m B σ O Hs H d v1) (h : tyN d = some t) : TyX K H v1 (.type t) ∧ t ∈ ["NoneType", "bool", "int", "str", "tuple", "list", "dict"] := by
  cases d with
  | non => cases hp.non; cases h; exact ⟨.base .non, by decide⟩
  | bl b => cases hp.bl; cases h; exact ⟨.base (.bl _), by decide⟩
  | int b => cases hp.int; cases h; exact ⟨.base (.int _), by decide⟩
  | str b => cases hp.str; cases h; exact ⟨.base (.str _), by decide⟩
  | tup xs => obtain ⟨a, vs, rfl, ea, _⟩ := hp.tup; cases h; exact ⟨.base (.tup ea), by decide⟩
  | lst xs => obtain ⟨a, vs, rfl, ea, _⟩ := hp.lst; cases h; exact ⟨.base (.lst ea), by decide⟩
  | dk xs => obtain ⟨a, vs, rfl, ea, _⟩ := hp.dk; cases h; exact ⟨.base (.dK ea), by decide⟩
  | dt xs => obtain ⟨a, vs, rfl, ea, _⟩ := hp.dt; cases h; exact ⟨.base (.dT ea), by decide⟩
  | _ => cases h
theorem ve_isi {T : String} {y : Str} {py : Pos} (hm : C.X.mg "isinstance" = none) (hT : C.X.mg y = none) (ha : VM C ma O a da) (hv : bootBuiltins y = some (.type T) := by decide +kernel) (hk : kitOk T = true := by decide +kernel) (hgy : Gl C.X y := by rfl) (hny : y ≠ "__name__" := by decide) (hdy : (y == ("__debug__" : Str)) = false := by decide)
    (hg : Gl C.X "isinstance" := by rfl) (hs2 : starEach (.Name y py :: []) C.X.env = (false, eval (.Name y py) C.X.env) :: starEach [] C.X.env := by rfl)
    (hs : starEach (a :: [.Name y py]) C.X.env = (false, eval a C.X.env) :: starEach [.Name y py] C.X.env := by rfl) (hpl : (backTo pos (starEach [.Name y py] C.X.env)).any (·.1) = false := by rfl) :
    VM C .e O (.Call (.Name "isinstance" p) [a, .Name y py] [] pos) (dUn (fIsi T) da) :=
  PE.wk (pe_callB call_isi hg hm (by decide +kernel) (pa_cons ha (pa_cons (pe_bltn (v := .ty T) hgy hT hv rfl hny hdy) pa_nil hs2) hs) (by decide) (by decide) hs hpl) fun σ H Q ⟨B, H0, ρ, s, q⟩ => rd_bind nh_refl s q fun d v H' x s' p q => by
    have q : Aft _ _ _ _ _ _ _ _ _ _ _ (match tyN d with | some t => Res.ok (.bl (isB T t)) | none => .bad) _ := q
    cases e : tyN d with
    | none => rw [e] at q; exact q.elim
    | some t =>
      rw [e] at q
      obtain ⟨h1, h2⟩ := p.ty (K := C.X.K) e
      refine ⟨v, .ty T, _, .type T, isB T t, rfl, .ty T, h1, kit_ty ?_, Aft.val s' q (PP.scal fun _ => .bl _)⟩
      have := List.all_eq_true.mp hk t h2
      exact beq_iff_eq.mp this

/-! ### a def's promise, by deep values -/
/-- what is handed back: shown beyond B; a new list -/
def PR (Θ : Th) (fr : Bool) (B : Addr → Prop) (H0 H : Hp) (d : D) (v : V) : Prop :=
  match fr with
  | false => Den Θ (hide B H) v d
  | true => ∃ a, v = .ref a ∧ H0 a = none ∧ OwnAt Θ (cut a (hide B H)) H a d
def spD (Θ : Th) (mg : Str → Option Value) (fr : Bool) (n : Nat) (f : List D → Res D) : Sp := fun vs H Q E => ∃ (B : Addr → Prop) (ds : List D), (∀ b, B b → H b ≠ none) ∧ ds.length = n ∧ Dens Θ (hide B H) vs ds ∧
  match f ds with
  | .ok d => ∀ v H', Ext Θ B H H' → PR Θ fr B H H' d v → Q v H'
  | .exc c p => ∀ cls dd H', Ext Θ B H H' → ExcOk Θ mg H' c p cls dd → E cls dd H'
  | .bad => False
/-- the def called x computes f, by level k at most -/
structure FOk (P : Program) (w : World) (K : PySem.W.Frag) (mg : Str → Option Value) (base : Heap) (Θ : Th) (x : Str) (k : Nat) (fr : Bool) (n : Nat) (f : List D → Res D) : Prop where
  ex : ∃ (g : Addr) (fd : FuncData) (ps : List Str), mg x = some (.ref g) ∧ PySem.W.keepIn K (.ref g) = true ∧ Binds K fd ps [] ∧ ps.length = n ∧ FnOk P w K mg base (L2.CX P w) k g fd ps (spD Θ mg fr n f)
/-- a def may be given another body, where that says the same -/
theorem FOk.imp {P : Program} {w : World} {K : PySem.W.Frag} {mg : Str → Option Value} {base : Heap} {Θ : Th} {x : Str} {k : Nat} {fr : Bool} {n : Nat} {f f' : List D → Res D} (F : FOk P w K mg base Θ x k fr n f) (h : ∀ ds, ds.length = n → f' ds = .bad ∨ f ds = f' ds) : FOk P w K mg base Θ x k fr n f' := by
  obtain ⟨g, fd, ps, h1, h2, h3, h4, h5⟩ := F.ex
  refine ⟨g, fd, ps, h1, h2, h3, h4, h5.imp fun vs H Q E ⟨B, ds, b1, b2, b3, q⟩ => ⟨B, ds, b1, b2, b3, ?_⟩⟩
  rcases h ds b2 with e | e
  · rw [e] at q; exact q.elim
  · rw [e]; exact q
theorem FOk.mono {P : Program} {w : World} {K : PySem.W.Frag} {mg : Str → Option Value} {base : Heap} {Θ : Th} {x : Str} {j k : Nat} {fr : Bool} {n : Nat} {f : List D → Res D} (F : FOk P w K mg base Θ x j fr n f) (h : j ≤ k) : FOk P w K mg base Θ x k fr n f := by
  obtain ⟨g, fd, ps, h1, h2, h3, h4, h5⟩ := F.ex
  exact ⟨g, fd, ps, h1, h2, h3, h4, h5.mono h⟩
def md (fr : Bool) : Mode := match fr with
  | true => .f
  | false => .e
def dCall (n : Nat) (f : List D → Res D) (dr : Rho → Res (List D)) : Rho → Res D := fun ρ => (dr ρ).bind fun ds => if ds.length = n then f ds else .bad
def dCall0 (f : List D → Res D) : Rho → Res D := fun _ => match f [] with
  | .ok d => .ok d
  | _ => .bad
theorem Stt.bexHd (s : Stt C.Θ B H0 O ρ σ H) : ∀ b, Hd B σ O b → H b ≠ none := by
  rintro b (h | ⟨i, hi, e⟩)
  · exact s.bex b h
  · obtain ⟨a, d, _, e2, q, _⟩ := s.own i hi
    rw [e] at e2
    cases e2
    exact q.there
theorem call_sp {fr : Bool} {n : Nat} {f : List D → Res D} {vs : List V} {ds : List D} (nh : ∀ a, H a = none → Hs a = none) (s : Stt C.Θ B H0 O ρ σ H) (hn : ds.length = n) (hs : Dens C.Θ (hid B σ O H) vs ds) (q : Aft C.Θ C.X.mg C.W (md fr) B H0 O ρ σ Hs H (f ds) Q) :
    spD C.Θ C.X.mg fr n f (vs ++ []) H Q (WE C.W σ) := by
  refine ⟨Hd B σ O, ds, s.bexHd, hn, by rw [List.append_nil]; exact hs, ?_⟩
  generalize f ds = r at q ⊢
  cases r with
  | bad => exact q.elim
  | exc c p => exact fun cls dd H' x e => q cls dd H' x (s.up x) e
  | ok d =>
    intro v H' x pr
    refine q v H' x (s.up x) ?_
    cases fr with
    | false => exact pr
    | true =>
      obtain ⟨a, e, n0, ow⟩ := pr
      exact ⟨a, e, nh a n0, s.fresh n0, ow⟩
theorem ve_call {k n : Nat} {fr : Bool} {f : List D → Res D} (F : FOk C.X.prog C.X.w C.X.K C.X.mg C.X.base C.Θ x k fr n f) (ha : VL C O (e :: es) dr) (hk : k ≤ C.lv := by decide) (hg : Gl C.X x := by rfl)
    (hdb : (x == ("__debug__" : Str)) = false := by decide) (he : starEach (e :: es) C.X.env = (false, eval e C.X.env) :: starEach es C.X.env := by rfl) (hpl : (backTo pos (starEach es C.X.env)).any (·.1) = false := by rfl) :
    VM C (md fr) O (.Call (.Name x p) (e :: es) [] pos) (dCall n f dr) := by
  obtain ⟨g, fd, ps, h1, h2, h3, h4, h5⟩ := F.ex
  exact PE.wk (pe_callSD (E := WE C.W) h5 (C.room.mono hk) hg h1 h2 h3 .nil (fun σ => passAt C.tk σ) ha hdb he hpl) fun σ H Q ⟨B, H0, ρ, s, q⟩ => rdL_bind s q fun ds vs H' x s' hs q => by
    obtain ⟨hn, q⟩ := Aft.ite q
    exact call_sp (fun a n => x.new a n) s' hn hs q
theorem pass_no {X : Cx} : Passes (L2.CX X.prog X.w) X E0 := fun _ _ _ _ _ _ _ ⟨_, _, _, _, _, _, _, _, _, _, _, _, h⟩ => h.elim
theorem ve_call0 {k : Nat} {fr : Bool} {f : List D → Res D} (F : FOk C.X.prog C.X.w C.X.K C.X.mg C.X.base C.Θ x k fr 0 f) (hk : k ≤ C.lv := by decide) (hg : Gl C.X x := by rfl) (hdb : (x == ("__debug__" : Str)) = false := by decide) :
    VM C (md fr) O (.Call (.Name x p) [] [] pos) (dCall0 f) := by
  obtain ⟨g, fd, ps, h1, h2, h3, h4, h5⟩ := F.ex
  exact PE.wk (pe_call0 h5 (C.room.mono hk) hg h1 h2 h3 .nil pass_no hdb) fun σ H Q ⟨B, H0, ρ, s, q⟩ => by
    have q : Aft C.Θ C.X.mg C.W (md fr) B H0 O ρ σ H H (match f [] with | .ok d => .ok d | _ => .bad) Q := q
    refine ⟨Hd B σ O, [], s.bexHd, rfl, .nil, ?_⟩
    generalize f [] = r at q ⊢
    cases r with
    | bad => exact q.elim
    | exc c p => exact q.elim
    | ok d =>
      intro v H' x pr
      refine q v H' x (s.up x) ?_
      cases fr with
      | false => exact pr
      | true =>
        obtain ⟨a, e, n0, ow⟩ := pr
        exact ⟨a, e, n0, s.fresh n0, ow⟩
end
end Dn

namespace Dn
open PySem PySem.Spec L2
open PyProof.Rows hiding St

/-- where a statement ends -/
inductive Out where
  | nx (ρ : Rho)
  | ct (ρ : Rho)
  | rt (d : D)
  | exc (c : Str) (p : List (Str × D)) (ρ : Rho)
  | bad
abbrev Vs (Θ : Th) (G G' : Hp) : Prop := Ext Θ (fun _ => False) G G'
def AftS (Θ : Th) (mg : Str → Option Value) (W : WX) (fr : Bool) (B : Addr → Prop) (H0 : Hp) (O' Oc : List Nat) (G : Hp) (r : Out) (Dd : Ends) : Prop :=
  match r with
  | .nx ρ' => ∀ σ' H', Stt Θ B H0 O' ρ' σ' H' → Vs Θ G (hid B σ' O' H') → Dd.nx σ' H'
  | .ct ρ' => ∀ σ' H', Stt Θ B H0 Oc ρ' σ' H' → Vs Θ G (hid B σ' Oc H') → Dd.ct σ' H'
  | .rt d => ∀ v H', Ext Θ B H0 H' → PR Θ fr B H0 H' d v → Dd.rt v H'
  | .exc c p ρ' => ∀ cls dd σ' H', Stt Θ B H0 [] ρ' σ' H' → Vs Θ G (hid B σ' [] H') → ExcOk Θ mg H' c p cls dd → W cls dd σ' H'
  | .bad => False
def rdS (Θ : Th) (mg : Str → Option Value) (W : WX) (fr : Bool) (O O' Oc : List Nat) (den : Rho → Out) : TS := fun Dd σ H =>
  ∃ B H0 ρ, Stt Θ B H0 O ρ σ H ∧ AftS Θ mg W fr B H0 O' Oc (hid B σ O H) (den ρ) Dd
abbrev VS (C : Ctx) (Oc O O' : List Nat) (st : Stmt) (den : Rho → Out) : Prop := PS C.X st (rdS C.Θ C.X.mg C.W C.fr O O' Oc den)
abbrev VSs (C : Ctx) (Oc O O' : List Nat) (st : List Stmt) (den : Rho → Out) : Prop := PSs C.X st (rdS C.Θ C.X.mg C.W C.fr O O' Oc den)
theorem PS.wk {X : Cx} {st : Stmt} {t t' : TS} (h : PS X st t) (w : ∀ Dd σ H, t' Dd σ H → t Dd σ H) : PS X st t' := ⟨fun pins s σ H Dd I q => h.run pins s σ H Dd I (w _ _ _ q)⟩
theorem PSs.wk {X : Cx} {st : List Stmt} {t t' : TS} (h : PSs X st t) (w : ∀ Dd σ H, t' Dd σ H → t Dd σ H) : PSs X st t' := ⟨fun pins s σ H Dd I q => h.run pins s σ H Dd I (w _ _ _ q)⟩

section
variable {Θ : Th} {mg : Str → Option Value} {W : WX} {fr : Bool} {B : Addr → Prop} {H0 H H' G G' : Hp} {O O' O1 O2 Oc : List Nat} {ρ ρ' : Rho} {σ σ' : L2.St} {r : Out} {Dd : Ends} {i : Nat} {d : D} {v : V} {a : Addr}
theorem hide_noP : hide (fun _ => False) H = H := by
  funext b
  cases e : H b with
  | none =>
    cases q : hide (fun _ => False) H b with
    | none => rfl
    | some o => rw [hide_sub _ _ q] at e; cases e
  | some o => exact hide_of e fun z => z
theorem AftS.seq (x : Vs Θ G G') (h : AftS Θ mg W fr B H0 O' Oc G r Dd) : AftS Θ mg W fr B H0 O' Oc G' r Dd := by
  cases r with
  | nx ρ' => exact fun σ' H' s y => h σ' H' s (x.trans y)
  | ct ρ' => exact fun σ' H' s y => h σ' H' s (x.trans y)
  | rt d => exact h
  | exc c p ρ' => exact fun cls dd σ' H' s y e => h cls dd σ' H' s (x.trans y) e
  | bad => exact h
theorem Vs.same (h : ∀ a o, G a = some o → G' a = some o) : Vs Θ G G' := fun a o e => .inl (h a o e)
/-- fewer lists are owned -/
theorem hid_less (h : ∀ i, i ∈ O1 → i ∈ O) : ∀ a o, hid B σ O H a = some o → hid B σ O1 H a = some o := hide_mono fun a => by
  rintro (z | ⟨i, hi, e⟩)
  · exact .inl z
  · exact .inr ⟨i, h i hi, e⟩
theorem Stt.less (s : Stt Θ B H0 O ρ σ H) (h : ∀ i, i ∈ O1 → i ∈ O) : Stt Θ B H0 O1 ρ σ H where
  len := s.len
  ext := s.ext
  bex := s.bex
  val := fun i d hi e => by
    by_cases ho : i ∈ O
    · obtain ⟨a, d', e1, e2, q, nb, n0⟩ := s.own i ho
      rw [e] at e1
      cases e1
      refine ⟨.ref a, e2, ?_⟩
      refine OwnAt.den (q.up (fun _ _ => Dens.shows ⟨hid_sub, ⟨fun _ => False, .refl⟩, fun b o o' h1 h2 => by rw [hid_sub _ _ h1] at h2; cases h2; exact hid_less h _ _ h1⟩) fun o _ z => z) ?_
      cases q2 : H a with
      | none => exact absurd q2 q.there
      | some o =>
        refine hid_of q2 ?_
        rintro (z | ⟨j, hj, ej⟩)
        · exact nb z
        · have := s.inj i j a ho (h j hj) e2 ej
          subst this
          exact hi hj
    · obtain ⟨v, e1, q⟩ := s.val i d ho e
      exact ⟨v, e1, Den.shows ⟨hid_sub, ⟨fun _ => False, .refl⟩, fun b o o' h1 h2 => by rw [hid_sub _ _ h1] at h2; cases h2; exact hid_less h _ _ h1⟩ q⟩
  own := fun i hi => by
    obtain ⟨a, d', e1, e2, q, nb, n0⟩ := s.own i (h i hi)
    exact ⟨a, d', e1, e2, q.up (fun _ _ => Dens.shows ⟨hid_sub, ⟨fun _ => False, .refl⟩, fun b o o' h1 h2 => by rw [hid_sub _ _ h1] at h2; cases h2; exact hid_less h _ _ h1⟩) (fun o _ z => z), nb, n0⟩
  inj := fun i j a hi hj => s.inj i j a (h i hi) (h j hj)
theorem shows_less (h : ∀ a o, hid B σ O H a = some o → hid B σ' O1 H a = some o) : Shows Θ (hid B σ O H) H (hid B σ' O1 H) H :=
  ⟨hid_sub, ⟨fun _ => False, .refl⟩, fun b o o' h1 h2 => by rw [hid_sub _ _ h1] at h2; cases h2; exact h _ _ h1⟩

/-! ### a name is stored -/
def ofN (O : List Nat) (i : Nat) : List Nat := O.filter (· != i)
theorem mem_ofN {j : Nat} : j ∈ ofN O i ↔ j ∈ O ∧ j ≠ i := by simp [ofN]
theorem hid_set (hi : i < σ.length) : ∀ a o, hid B σ O H a = some o → hid B (σ.set i (some v)) (ofN O i) H a = some o := hide_mono fun a => by
  rintro (z | ⟨j, hj, e⟩)
  · exact .inl z
  · obtain ⟨h1, h2⟩ := mem_ofN.mp hj
    rw [List.getElem?_set_ne (Ne.symm h2)] at e
    exact .inr ⟨j, h1, e⟩
theorem Stt.setE (s : Stt Θ B H0 O ρ σ H) (hi : i < σ.length) (p : Den Θ (hid B σ O H) v d) : Stt Θ B H0 (ofN O i) (ρ.set i (some d)) (σ.set i (some v)) H where
  len := by rw [List.length_set, List.length_set]; exact s.len
  ext := s.ext
  bex := s.bex
  val := fun j d' hj e => by
    by_cases hji : j = i
    · subst hji
      rw [List.getElem?_set_self (by rw [s.len]; exact hi)] at e
      cases e
      exact ⟨v, List.getElem?_set_self hi, Den.shows (shows_less (hid_set hi)) p⟩
    · rw [List.getElem?_set_ne (Ne.symm hji)] at e
      have hjo : j ∉ O := fun z => hj (mem_ofN.mpr ⟨z, hji⟩)
      obtain ⟨u, e1, q⟩ := s.val j d' hjo e
      exact ⟨u, by rw [List.getElem?_set_ne (Ne.symm hji)]; exact e1, Den.shows (shows_less (hid_set hi)) q⟩
  own := fun j hj => by
    obtain ⟨h1, h2⟩ := mem_ofN.mp hj
    obtain ⟨a, d', e1, e2, q, nb, n0⟩ := s.own j h1
    exact ⟨a, d', by rw [List.getElem?_set_ne (Ne.symm h2)]; exact e1, by rw [List.getElem?_set_ne (Ne.symm h2)]; exact e2, q.up (fun _ _ => Dens.shows (shows_less (hid_set hi))) (fun o _ z => z), nb, n0⟩
  inj := fun j k a hj hk e1 e2 => by
    obtain ⟨h1, h2⟩ := mem_ofN.mp hj
    obtain ⟨h3, h4⟩ := mem_ofN.mp hk
    rw [List.getElem?_set_ne (Ne.symm h2)] at e1
    rw [List.getElem?_set_ne (Ne.symm h4)] at e2
    exact s.inj j k a h1 h3 e1 e2
/-- a new list comes into a slot that owns it -/
theorem hid_setF (hi : i < σ.length) (x : Ext Θ (Hd B σ O) H H') (n : H a = none) : ∀ b o, hid B σ O H b = some o → ∀ o', H' b = some o' → hid B (σ.set i (some (.ref a))) (i :: ofN O i) H' b = some o' := fun b o h o' h' => by
  obtain ⟨h1, h2⟩ := of_hid h
  refine hid_of h' ?_
  rintro (z | ⟨j, hj, e⟩)
  · exact h2 (.inl z)
  · rcases List.mem_cons.mp hj with rfl | hj
    · rw [List.getElem?_set_self hi] at e
      cases e
      rw [n] at h1
      cases h1
    · obtain ⟨h3, h4⟩ := mem_ofN.mp hj
      rw [List.getElem?_set_ne (Ne.symm h4)] at e
      exact h2 (.inr ⟨j, h3, e⟩)
theorem cut_setF (hi : i < σ.length) : ∀ b o, cut a (hid B σ O H') b = some o → hid B (σ.set i (some (.ref a))) (i :: ofN O i) H' b = some o := fun b o h => by
  obtain ⟨h0, hb⟩ := of_cut h
  obtain ⟨h1, h2⟩ := of_hid h0
  refine hid_of h1 ?_
  rintro (z | ⟨j, hj, e⟩)
  · exact h2 (.inl z)
  · rcases List.mem_cons.mp hj with rfl | hj
    · rw [List.getElem?_set_self hi] at e
      cases e
      exact hb rfl
    · obtain ⟨h3, h4⟩ := mem_ofN.mp hj
      rw [List.getElem?_set_ne (Ne.symm h4)] at e
      exact h2 (.inr ⟨j, h3, e⟩)
theorem OwnAt.not {o : HO} (p : OwnAt Θ G H a d) (h : H a = some o) : (∀ vs, o ≠ .tup vs) ∧ (∀ ob u, o ≠ .frz ob u) := by
  cases p with
  | lst e _ => rw [e] at h; cases h; exact ⟨(fun _ z => nomatch z), (fun _ _ z => nomatch z)⟩
  | dk e _ _ => rw [e] at h; cases h; exact ⟨(fun _ z => nomatch z), (fun _ _ z => nomatch z)⟩
  | dt e _ _ => rw [e] at h; cases h; exact ⟨(fun _ z => nomatch z), (fun _ _ z => nomatch z)⟩
/-- a list is no part of a book -/
theorem BookFs.go {fs : List (Str × V)} {b : Bk} (e : BookFs G fs b) (go : ∀ a o, G a = some o → ((∃ vs, o = .tup vs) ∨ ∃ ob u, o = .frz ob u) → G' a = some o) : BookFs G' fs b := by
  obtain ⟨⟨a1, l1, h1⟩, ⟨a2, l2, rs, h2, h2l, h2t⟩, k, ⟨a3, l3, o3, h3⟩, ln, nm⟩ := e
  exact ⟨⟨a1, l1, go _ _ h1 (.inl ⟨_, rfl⟩)⟩, ⟨a2, l2, rs, go _ _ h2 (.inl ⟨_, rfl⟩), h2l, fun i r t x y => go _ _ (h2t i r t x y) (.inl ⟨_, rfl⟩)⟩, k, ⟨a3, l3, o3, go _ _ h3 (.inr ⟨_, _, rfl⟩)⟩, ln, nm⟩
theorem vis_setF (hi : i < σ.length) (x : Ext Θ (Hd B σ O) H H') (n : H a = none) (p : OwnAt Θ G H' a d) : Vs Θ (hid B σ O H) (hid B (σ.set i (some (.ref a))) (i :: ofN O i) H') := fun b o e => by
  rcases x.vis b o e with q | ⟨_, dx, fs, fs', bk, e1, q, o1, o2, hb, hk⟩
  · exact .inl (hid_setF hi x n b o e o (hid_sub _ _ q))
  · refine .inr ⟨fun z => z, dx, fs, fs', bk, e1, hid_setF hi x n b o e _ (hid_sub _ _ q), o1, o2, ?_, hk⟩
    rw [hide_noP] at hb ⊢
    refine hb.go fun c u hc hu => cut_setF (a := a) hi c u (cut_of hc ?_)
    rintro rfl
    have := p.not (hid_sub _ _ hc)
    rcases hu with ⟨vs, rfl⟩ | ⟨ob, w, rfl⟩
    · exact this.1 _ rfl
    · exact this.2 _ _ rfl
theorem Stt.setF (s : Stt Θ B H0 O ρ σ H) (hi : i < σ.length) (x : Ext Θ (Hd B σ O) H H') (n : H a = none) (nh : ¬ Hd B σ O a) (p : OwnAt Θ (cut a (hid B σ O H')) H' a d) : Stt Θ B H0 (i :: ofN O i) (ρ.set i (some d)) (σ.set i (some (.ref a))) H' where
  len := by rw [List.length_set, List.length_set]; exact s.len
  ext := s.ext.trans (x.mono fun _ z => .inl z)
  bex := fun b hb => x.there (s.bex b hb)
  val := fun j d' hj e => by
    have hji : j ≠ i := fun z => hj (by rw [z]; exact List.mem_cons_self)
    rw [List.getElem?_set_ne (Ne.symm hji)] at e
    have hjo : j ∉ O := fun z => hj (List.mem_cons_of_mem _ (mem_ofN.mpr ⟨z, hji⟩))
    obtain ⟨u, e1, q⟩ := s.val j d' hjo e
    exact ⟨u, by rw [List.getElem?_set_ne (Ne.symm hji)]; exact e1, Den.shows ⟨hid_sub, ⟨_, x⟩, fun b o o' h1 h2 => hid_setF hi x n b o h1 o' h2⟩ q⟩
  own := fun j hj => by
    rcases List.mem_cons.mp hj with rfl | hj
    · refine ⟨a, d, List.getElem?_set_self (by rw [s.len]; exact hi), List.getElem?_set_self hi, p.up (fun _ _ => Dens.shows ⟨fun b o z => hid_sub _ _ (of_cut z).1, ⟨fun _ => False, .refl⟩, fun b o o' h1 h2 => ?_⟩) (fun o _ z => z), fun z => nh (.inl z), ?_⟩
      · have h3 := cut_setF (a := a) hi b o h1
        rw [hid_sub _ _ h3] at h2
        cases h2
        exact h3
      · exact s.ext.new a n
    · obtain ⟨h1, h2⟩ := mem_ofN.mp hj
      obtain ⟨a', d', e1, e2, q, nb, n0⟩ := s.own j h1
      exact ⟨a', d', by rw [List.getElem?_set_ne (Ne.symm h2)]; exact e1, by rw [List.getElem?_set_ne (Ne.symm h2)]; exact e2, q.up (fun _ _ => Dens.shows ⟨hid_sub, ⟨_, x⟩, fun b o o' h1 h2 => hid_setF hi x n b o h1 o' h2⟩) (fun o nn z => x.keep z nn), nb, n0⟩
  inj := fun j k b hj hk e1 e2 => by
    have old : ∀ l, l ∈ ofN O i → (σ.set i (some (.ref a)))[l]? = some (some (.ref b)) → b ≠ a := fun l hl el z => by
      obtain ⟨h1, h2⟩ := mem_ofN.mp hl
      rw [List.getElem?_set_ne (Ne.symm h2)] at el
      obtain ⟨a', d', _, e4, q, _⟩ := s.own l h1
      rw [el] at e4
      cases e4
      rw [z] at q
      exact q.there n
    rcases List.mem_cons.mp hj with hj1 | hj1
    · rcases List.mem_cons.mp hk with hk1 | hk1
      · rw [hj1, hk1]
      · rw [hj1, List.getElem?_set_self hi] at e1
        cases e1
        exact absurd rfl (old k hk1 e2)
    · rcases List.mem_cons.mp hk with hk1 | hk1
      · rw [hk1, List.getElem?_set_self hi] at e2
        cases e2
        exact absurd rfl (old j hj1 e1)
      · obtain ⟨h1, h2⟩ := mem_ofN.mp hj1
        obtain ⟨h3, h4⟩ := mem_ofN.mp hk1
        rw [List.getElem?_set_ne (Ne.symm h2)] at e1
        rw [List.getElem?_set_ne (Ne.symm h4)] at e2
        exact s.inj j k b h1 h3 e1 e2
end
end Dn

namespace Dn
open PySem PySem.Spec L2
open PyProof.Rows hiding St

section
variable {Θ : Th} {mg : Str → Option Value} {W : WX} {fr : Bool} {B : Addr → Prop} {H0 H H' G G' Hs : Hp} {O O' O1 O2 Oc : List Nat} {ρ ρ' : Rho} {σ σ' : L2.St} {r : Out} {Dd : Ends} {i : Nat} {d : D} {v : V} {a : Addr}
theorem Stt.ilt (s : Stt Θ B H0 O ρ σ H) (h : i < ρ.length) : i < σ.length := by rw [← s.len]; exact h
theorem vis_hid (x : Ext Θ (Hd B σ O) H H') : Vs Θ (hid B σ O H) (hid B σ O H') := x.vis
theorem vis_less (h : ∀ i, i ∈ O1 → i ∈ O) : Vs Θ (hid B σ O H) (hid B σ O1 H) := Vs.same (hid_less h)
theorem vis_set (hi : i < σ.length) : Vs Θ (hid B σ O H) (hid B (σ.set i (some v)) (ofN O i) H) := Vs.same (hid_set hi)
/-- an exception leaves: nothing is owned any more -/
theorem exc_less {c : Str} {p : List (Str × D)} {P : Value → Option Addr → L2.St → Hp → Prop} (x : Ext Θ (Hd B σ O) H H') (s : Stt Θ B H0 O ρ σ H')
    (q : ∀ cls dd σ' H', Stt Θ B H0 [] ρ σ' H' → Vs Θ (hid B σ O H) (hid B σ' [] H') → ExcOk Θ mg H' c p cls dd → W cls dd σ' H') {cls : Value} {dd : Option Addr} (e : ExcOk Θ mg H' c p cls dd) : W cls dd σ H' :=
  q cls dd σ H' (s.less fun _ z => absurd z (by simp)) (x.vis.trans (vis_less fun _ z => absurd z (by simp))) e
/-- the owned list is changed in its place -/
theorem hid_own (s : Stt Θ B H0 O ρ σ H) (hi : i ∈ O) (e : σ[i]? = some (some (.ref a))) {o : HO} : hid B σ O (upd H a o) = hid B σ O H := by
  funext b
  by_cases hb : b = a
  · subst hb
    have h : Hd B σ O b := .inr ⟨i, hi, e⟩
    have n : ∀ K : Hp, hid B σ O K b = none := fun K => by
      cases q : hid B σ O K b with
      | none => rfl
      | some o => exact absurd h (of_hid q).2
    rw [n, n]
  · by_cases h : Hd B σ O b
    · have n : ∀ K : Hp, hid B σ O K b = none := fun K => by
        cases q : hid B σ O K b with
        | none => rfl
        | some o => exact absurd h (of_hid q).2
      rw [n, n]
    · cases q : H b with
      | none =>
        have n : ∀ K : Hp, K b = none → hid B σ O K b = none := fun K hk => by
          cases q : hid B σ O K b with
          | none => rfl
          | some o => rw [(of_hid q).1] at hk; cases hk
        rw [n H q, n _ (by rw [upd_ne hb]; exact q)]
      | some o' => rw [hid_of q h, hid_of (by rw [upd_ne hb]; exact q) h]
theorem Stt.write (s : Stt Θ B H0 O ρ σ H) (hi : i ∈ O) (e : σ[i]? = some (some (.ref a))) {o : HO} (p : OwnAt Θ (hid B σ O H) (upd H a o) a d) : Stt Θ B H0 O (ρ.set i (some d)) σ (upd H a o) := by
  obtain ⟨a', d0, e1, e2, q0, nb, n0⟩ := s.own i hi
  rw [e] at e2
  cases e2
  have hil : i < σ.length := by
    obtain ⟨z, _⟩ := List.getElem?_eq_some_iff.mp e
    exact z
  have hid' : hid B σ O (upd H a o) = hid B σ O H := hid_own s hi e
  refine ⟨by rw [List.length_set]; exact s.len, fun b u hb => ?_, fun b hb => ?_, fun j d' hj ej => ?_, fun j hj => ?_, s.inj⟩
  · rcases s.ext b u hb with z | ⟨np, dx, fs, fs', bk, z1, z2, z3, z4, z5, z6⟩
    · exact .inl (by rw [upd_ne (fun y => by rw [y, n0] at hb; cases hb)]; exact z)
    · refine .inr ⟨np, dx, fs, fs', bk, z1, by rw [upd_ne (fun y => by rw [y, n0] at hb; cases hb)]; exact z2, z3, z4, z5.go fun c u hc hu => ?_, z6⟩
      obtain ⟨k1, k2⟩ := of_hide hc
      have : c ≠ a := by
        rintro rfl
        have := q0.not k1
        rcases hu with ⟨vs, rfl⟩ | ⟨ob, w, rfl⟩
        · exact this.1 _ rfl
        · exact this.2 _ _ rfl
      exact hide_of (by rw [upd_ne this]; exact k1) k2
  · by_cases z : b = a
    · rw [z, upd_same]; exact fun y => nomatch y
    · rw [upd_ne z]; exact s.bex b hb
  · have hji : j ≠ i := fun z => hj (z ▸ hi)
    rw [List.getElem?_set_ne (Ne.symm hji)] at ej
    obtain ⟨u, e3, q⟩ := s.val j d' hj ej
    exact ⟨u, e3, by rw [hid']; exact q⟩
  · by_cases hji : j = i
    · subst hji
      exact ⟨a, d, List.getElem?_set_self (by rw [s.len]; exact hil), e, by rw [hid']; exact p, nb, n0⟩
    · obtain ⟨b, d', e3, e4, q, nb', n0'⟩ := s.own j hj
      have hba : b ≠ a := by
        rintro rfl
        exact hji (s.inj j i b hj hi e4 e)
      refine ⟨b, d', by rw [List.getElem?_set_ne (Ne.symm hji)]; exact e3, e4, ?_, nb', n0'⟩
      rw [hid']
      exact q.up (fun _ _ z => z) fun o' _ z => by rw [upd_ne hba]; exact z
end

section
variable {C : Ctx} {m ma mb mc : Mode} {O O' O1 O2 Oc : List Nat} {e a b c : Expr} {es : List Expr} {den da db dc de : Rho → Res D} {pos p p2 apos : Pos} {dr : Rho → Res (List D)} {st : Stmt} {sts rest els : List Stmt} {ds d1 d2 : Rho → Out} {x : Str} {i : Nat} {tc : Rho → Res Bool}
/-! ### blocks -/
def dNx : Rho → Out := fun ρ => .nx ρ
def dSeq (d1 d2 : Rho → Out) : Rho → Out := fun ρ => match d1 ρ with
  | .nx ρ' => d2 ρ'
  | r => r
theorem vss_nil (h : ∀ i, i ∈ O' → i ∈ O := by decide) : VSs C Oc O O' [] dNx := PSs.wk pss_nil fun Dd σ H ⟨B, H0, ρ, s, q⟩ => q σ H (s.less h) (vis_less h)
theorem vss_cons (h1 : VS C Oc O O1 st d1) (h2 : VSs C Oc O1 O2 rest d2) : VSs C Oc O O2 (st :: rest) (dSeq d1 d2) :=
  PSs.wk (pss_cons h1 h2) fun Dd σ H ⟨B, H0, ρ, s, q⟩ => by
    refine ⟨B, H0, ρ, s, ?_⟩
    unfold dSeq at q
    generalize d1 ρ = r at q ⊢
    cases r with
    | nx ρ' => exact fun σ' H' s' x => ⟨B, H0, ρ', s', AftS.seq x q⟩
    | ct ρ' => exact q
    | rt d => exact q
    | exc c p ρ' => exact q
    | bad => exact q
/-- lists are no longer owned -/
theorem vs_wk (h1 : VS C Oc O1 O' st ds) (h : ∀ i, i ∈ O1 → i ∈ O := by decide) : VS C Oc O O' st ds := PS.wk h1 fun Dd σ H ⟨B, H0, ρ, s, q⟩ => ⟨B, H0, ρ, s.less h, AftS.seq (vis_less h) q⟩
theorem vss_wk (h1 : VSs C Oc O1 O' sts ds) (h : ∀ i, i ∈ O1 → i ∈ O := by decide) : VSs C Oc O O' sts ds := PSs.wk h1 fun Dd σ H ⟨B, H0, ρ, s, q⟩ => ⟨B, H0, ρ, s.less h, AftS.seq (vis_less h) q⟩
theorem vs_pass (h : ∀ i, i ∈ O' → i ∈ O := by decide) : VS C Oc O O' (.Pass pos) dNx := PS.wk ps_pass fun Dd σ H ⟨B, H0, ρ, s, q⟩ => q σ H (s.less h) (vis_less h)
def dCt : Rho → Out := fun ρ => .ct ρ
theorem vs_cont (h : ∀ i, i ∈ Oc → i ∈ O := by decide) : VS C Oc O O' (.Continue pos) dCt := PS.wk ps_continue fun Dd σ H ⟨B, H0, ρ, s, q⟩ => q σ H (s.less h) (vis_less h)
/-! ### name = value -/
/-- going on behind a value -/
def onD (de : Rho → Res D) (k : D → Rho → Out) : Rho → Out := fun ρ => match de ρ with
  | .ok d => k d ρ
  | .exc c p => .exc c p ρ
  | .bad => .bad
def setR (i : Nat) (d : D) (ρ : Rho) : Out := if i < ρ.length then .nx (ρ.set i (some d)) else .bad
def dSet (i : Nat) (de : Rho → Res D) : Rho → Out := onD de fun d ρ => setR i d ρ
theorem rdS_on {k : D → Rho → Out} {B : Addr → Prop} {H0 H : Hp} {ρ : Rho} {σ : L2.St} {Dd : Ends} {R : VK} (s : Stt C.Θ B H0 O ρ σ H) (q : AftS C.Θ C.X.mg C.W C.fr B H0 O' Oc (hid B σ O H) (onD de k ρ) Dd)
    (h : ∀ d v H', Ext C.Θ (Hd B σ O) H H' → Stt C.Θ B H0 O ρ σ H' → PP C.Θ m B σ O H H' d v → AftS C.Θ C.X.mg C.W C.fr B H0 O' Oc (hid B σ O H') (k d ρ) Dd → AftS C.Θ C.X.mg C.W C.fr B H0 O' Oc (hid B σ O H) (k d ρ) Dd → R v H') : rd C.Θ C.X.mg C.W m O de σ H R := by
  refine ⟨B, H0, ρ, s, ?_⟩
  unfold onD at q
  generalize de ρ = r at q ⊢
  cases r with
  | bad => exact q.elim
  | exc c p => exact fun cls dd H' x s' e => exc_less (P := fun _ _ _ _ => True) x s' q e
  | ok d => exact fun v H' x s' p => h d v H' x s' p (AftS.seq x.vis q) q
theorem setR_ok {B : Addr → Prop} {H0 H : Hp} {ρ : Rho} {σ : L2.St} {G : Hp} {d : D} {Dd : Ends} (q : AftS C.Θ C.X.mg C.W C.fr B H0 O' Oc G (setR i d ρ) Dd) : i < ρ.length ∧ AftS C.Θ C.X.mg C.W C.fr B H0 O' Oc G (.nx (ρ.set i (some d))) Dd := by
  unfold setR at q
  by_cases z : i < ρ.length
  · rw [if_pos z] at q; exact ⟨z, q⟩
  · rw [if_neg z] at q; exact q.elim
theorem vs_set {pos' : Pos} (he : VM C .e O e de) (hi : C.X.N[i]? = some x := by rfl) (hx : Loc C.X.env.scope x := by first | exact Or.inl rfl | exact Or.inr rfl) (hs : swapsWith e (some (.Name x pos')) pos.line C.X.env = pure false := by rfl) (hf : C.X.fn x = true ∨ C.X.env.scope.names.lookup x = some .local := by first | exact .inl rfl | exact .inr rfl) :
    VS C Oc O (ofN O i) (.Assign [.Name x pos'] e pos) (dSet i de) :=
  PS.wk (ps_set C.nd hi hx he hs hf) fun Dd σ H ⟨B, H0, ρ, s, q⟩ => rdS_on s q fun d v H' x s' p q _ => by
    obtain ⟨hz, q⟩ := setR_ok (H := H) (σ := σ) q
    exact q _ _ (s'.setE (s'.ilt hz) p) (vis_set (s'.ilt hz))
theorem vs_setF {pos' : Pos} (he : VM C .f O e de) (hi : C.X.N[i]? = some x := by rfl) (hx : Loc C.X.env.scope x := by first | exact Or.inl rfl | exact Or.inr rfl) (hs : swapsWith e (some (.Name x pos')) pos.line C.X.env = pure false := by rfl) (hf : C.X.fn x = true ∨ C.X.env.scope.names.lookup x = some .local := by first | exact .inl rfl | exact .inr rfl) :
    VS C Oc O (i :: ofN O i) (.Assign [.Name x pos'] e pos) (dSet i de) :=
  PS.wk (ps_set C.nd hi hx he hs hf) fun Dd σ H ⟨B, H0, ρ, s, q⟩ => rdS_on s q fun d v H' x s' p _ q => by
    obtain ⟨hz, q⟩ := setR_ok (H := H) (σ := σ) q
    obtain ⟨a, rfl, n, nh, ow⟩ := p
    exact q _ _ (s.setF (s.ilt hz) x n nh ow) (vis_setF (s.ilt hz) x n ow)
/-! ### return -/
def dRet (de : Rho → Res D) : Rho → Out := onD de fun d _ => .rt d
theorem PR.of {Θ : Th} {fr : Bool} {B : Addr → Prop} {H0 Hs H : Hp} {ρ : Rho} {σ : L2.St} {d : D} {v : V} (s0 : Stt Θ B H0 O ρ σ Hs) (p : PP Θ (md fr) B σ O Hs H d v) : PR Θ fr B H0 H d v := by
  cases fr with
  | false => exact Den.shows ⟨hid_sub, ⟨fun _ => False, .refl⟩, fun b o o' h1 h2 => hide_of h2 fun z => (of_hid h1).2 (.inl z)⟩ p
  | true =>
    obtain ⟨a, e, n, nh, ow⟩ := p
    refine ⟨a, e, s0.ext.new a n, ow.up (fun _ _ => Dens.shows ⟨fun b o h => hid_sub _ _ (of_cut h).1, ⟨fun _ => False, .refl⟩, fun b o o' h1 h2 => ?_⟩) fun o _ z => z⟩
    exact cut_of (hide_of h2 fun z => (of_hid (of_cut h1).1).2 (.inl z)) (of_cut h1).2
theorem vs_ret (he : VM C (md C.fr) O e de) : VS C Oc O O' (.Return (some e) pos) (dRet de) :=
  PS.wk (ps_ret he) fun Dd σ H ⟨B, H0, ρ, s, q⟩ => rdS_on s q fun d v H' x s' p _ q => q v H' s'.ext (PR.of s p)
/-- an owned list is handed back as a new one -/
theorem vs_retOwn (hfr : C.fr = true) (hi : i ∈ O := by decide) (hN : C.X.N[i]? = some x := by rfl) (hv : Vis C.X.env.scope x := by first | exact Or.inl rfl | exact Or.inr (Or.inl rfl) | exact Or.inr (Or.inr rfl)) (hd : (x == ("__debug__" : Str)) = false := by decide) (hcd : (x == ("__classdict__" : Str)) = false := by decide) :
    VS C Oc O O' (.Return (some (.Name x p)) pos) (dRet (dVar i)) :=
  PS.wk (ps_ret (pe_var hN hv hd hcd)) fun Dd σ H ⟨B, H0, ρ, s, q⟩ => by
    obtain ⟨a, d, e1, e2, ow, nb, n0⟩ := s.own i hi
    have q' : AftS C.Θ C.X.mg C.W C.fr B H0 O' Oc (hid B σ O H) (match dVar i ρ with | .ok d => .rt d | .exc c p => .exc c p ρ | .bad => .bad) Dd := q
    unfold dVar at q'
    rw [e1] at q'
    refine ⟨.ref a, e2, q' _ H s.ext ?_⟩
    rw [hfr]
    refine ⟨a, rfl, n0, ow.up (fun _ _ => Dens.shows ⟨hid_sub, ⟨fun _ => False, .refl⟩, fun b o o' h1 h2 => cut_of (hide_of h2 fun z => (of_hid h1).2 (.inl z)) fun z => (of_hid h1).2 (.inr ⟨i, hi, z ▸ e2⟩)⟩) fun o _ z => z⟩
def dRetN : Rho → Out := fun _ => .rt .non
theorem vs_retN (hfr : C.fr = false) : VS C Oc O O' (.Return none pos) dRetN :=
  PS.wk ps_retN fun Dd σ H ⟨B, H0, ρ, s, q⟩ => q .non H s.ext (by rw [hfr]; exact .non)
/-! ### if -/
def dIfS (tc : Rho → Res Bool) (d1 d2 : Rho → Out) : Rho → Out := fun ρ => match tc ρ with
  | .ok true => d1 ρ
  | .ok false => d2 ρ
  | .exc c p => .exc c p ρ
  | .bad => .bad
theorem vs_if (hc : VT C O c tc) (ha : VSs C Oc O O' sts d1) (hb : VSs C Oc O O' els d2) : VS C Oc O O' (.If c sts els pos) (dIfS tc d1 d2) :=
  PS.wk (ps_if hc ha hb) fun Dd σ H ⟨B, H0, ρ, s, q⟩ => by
    refine ⟨B, H0, ρ, s, ?_⟩
    unfold dIfS at q
    generalize tc ρ = r at q ⊢
    cases r with
    | bad => exact q.elim
    | exc c p => exact fun cls dd H' x s' e => exc_less (P := fun _ _ _ _ => True) x s' q e
    | ok k =>
      intro H' x s'
      cases k with
      | true => exact ⟨B, H0, ρ, s', AftS.seq x.vis q⟩
      | false => exact ⟨B, H0, ρ, s', AftS.seq x.vis q⟩
/-! ### an expression whose value is dropped; append, extend -/
def dDo (de : Rho → Res D) : Rho → Out := onD de fun _ ρ => .nx ρ
theorem vs_expr (he : VM C m O e de) (hs : swapsWith e none pos.line C.X.env = pure false := by rfl) : VS C Oc O O (.Expr e pos) (dDo de) :=
  PS.wk (ps_expr he hs) fun Dd σ H ⟨B, H0, ρ, s, q⟩ => rdS_on s q fun d v H' x s' p q _ => q σ H' s' .refl
def fApp : D → D → Res D
  | .lst xs, y => if xs.length < 16777216 then .ok (.lst (xs ++ [y])) else .bad
  | _, _ => .bad
def fExt : D → D → Res D
  | .lst xs, .lst ys => if xs.length + ys.length ≤ 16777216 then .ok (.lst (xs ++ ys)) else .bad
  | _, _ => .bad
/-- slot i becomes f of what it was and a value -/
def updK (i : Nat) (f : D → D → Res D) (y : D) (ρ : Rho) : Out := match dVar i ρ with
  | .ok x => match f x y with
    | .ok z => .nx (ρ.set i (some z))
    | _ => .bad
  | _ => .bad
def isLst (i : Nat) (ρ : Rho) : Bool := match dVar i ρ with
  | .ok (.lst _) => true
  | _ => false
def dUpd (i : Nat) (f : D → D → Res D) (de : Rho → Res D) : Rho → Out := fun ρ => if isLst i ρ = true then onD de (updK i f) ρ else .bad
theorem upd_own {f : D → D → Res D} {B : Addr → Prop} {H0 H : Hp} {ρ : Rho} {σ : L2.St} {G : Hp} {y : D} {Dd : Ends} (s : Stt C.Θ B H0 O ρ σ H) (hi : i ∈ O)
    (q : AftS C.Θ C.X.mg C.W C.fr B H0 O Oc (hid B σ O H) (updK i f y ρ) Dd) :
    ∃ a d z, σ[i]? = some (some (.ref a)) ∧ OwnAt C.Θ (hid B σ O H) H a d ∧ f d y = .ok z ∧ ∀ o, OwnAt C.Θ (hid B σ O H) (upd H a o) a z → Dd.nx σ (upd H a o) := by
  obtain ⟨a, d, e1, e2, ow, nb, n0⟩ := s.own i hi
  unfold updK dVar at q
  rw [e1] at q
  have q : AftS C.Θ C.X.mg C.W C.fr B H0 O Oc (hid B σ O H) (match f d y with | .ok z => .nx (ρ.set i (some z)) | _ => .bad) Dd := q
  cases e : f d y with
  | bad => rw [e] at q; exact q.elim
  | exc c p => rw [e] at q; exact q.elim
  | ok z =>
    rw [e] at q
    exact ⟨a, d, z, e2, ow, e, fun o po => q σ _ (s.write hi e2 po) (by rw [hid_own s hi e2]; exact .refl)⟩
theorem dUpd_ok {f : D → D → Res D} {B : Addr → Prop} {H0 : Hp} {ρ : Rho} {G : Hp} {Dd : Ends} (q : AftS C.Θ C.X.mg C.W C.fr B H0 O Oc G (dUpd i f de ρ) Dd) : isLst i ρ = true ∧ AftS C.Θ C.X.mg C.W C.fr B H0 O Oc G (onD de (updK i f) ρ) Dd := by
  unfold dUpd at q
  by_cases z : isLst i ρ = true
  · rw [if_pos z] at q; exact ⟨z, q⟩
  · rw [if_neg z] at q; exact q.elim
theorem own_lst {B : Addr → Prop} {H0 H : Hp} {ρ : Rho} {σ : L2.St} (s : Stt C.Θ B H0 O ρ σ H) (hi : i ∈ O) (hl : isLst i ρ = true) : ∃ a vs xs, ρ[i]? = some (some (.lst xs)) ∧ σ[i]? = some (some (.ref a)) ∧ H a = some (.lst vs) ∧ Dens C.Θ (hid B σ O H) vs xs := by
  obtain ⟨a, d, e1, e2, ow, nb, n0⟩ := s.own i hi
  unfold isLst dVar at hl
  rw [e1] at hl
  cases ow with
  | lst h hs => exact ⟨a, _, _, e1, e2, h, hs⟩
  | dk h hk hs => exact absurd hl (by simp)
  | dt h hk hs => exact absurd hl (by simp)
theorem fApp_ok {xs : List D} {y z : D} (h : fApp (.lst xs) y = .ok z) : xs.length < 16777216 ∧ z = .lst (xs ++ [y]) := by
  have h : (if xs.length < 16777216 then Res.ok (D.lst (xs ++ [y])) else .bad) = .ok z := h
  split at h
  · rename_i hz
    exact ⟨hz, (Res.ok.inj h).symm⟩
  · cases h
theorem fExt_ok {xs ys : List D} {z : D} (h : fExt (.lst xs) (.lst ys) = .ok z) : xs.length + ys.length ≤ 16777216 ∧ z = .lst (xs ++ ys) := by
  have h : (if xs.length + ys.length ≤ 16777216 then Res.ok (D.lst (xs ++ ys)) else .bad) = .ok z := h
  split at h
  · rename_i hz
    exact ⟨hz, (Res.ok.inj h).symm⟩
  · cases h
theorem vs_append (he : VM C .e O e de) (hi : i ∈ O := by decide) (hN : C.X.N[i]? = some x := by rfl) (hv : Vis C.X.env.scope x := by first | exact Or.inl rfl | exact Or.inr (Or.inl rfl) | exact Or.inr (Or.inr rfl)) (hd : (x == ("__debug__" : Str)) = false := by decide) (hcd : (x == ("__classdict__" : Str)) = false := by decide)
    (hbase : attributeBase (.Name x p) "append" C.X.env (eval (.Name x p) C.X.env) = eval (.Name x p) C.X.env := by rfl)
    (hfew : ((backTo p2 (starEach (e :: []) C.X.env)).all (fun x => !x.1) && (backToKw p2 (keywordEach [] C.X.env)).all (fun x => x.1.isSome)
      && decide ((e :: []).length + ([] : List Keyword).length + (if ([] : List Keyword).isEmpty then 0 else 1) < 30)) = true := by rfl)
    (hline : (apos.endLine == p2.line) = true := by rfl) (hs : starEach (e :: []) C.X.env = (false, eval e C.X.env) :: starEach [] C.X.env := by rfl) (hplain : (backTo p2 (starEach [] C.X.env)).any (·.1) = false := by rfl)
    (hsw : swapsWith (.Call (.Attribute (.Name x p) "append" apos) [e] [] p2) none pos.line C.X.env = pure false := by rfl) :
    VS C Oc O O (.Expr (.Call (.Attribute (.Name x p) "append" apos) [e] [] p2) pos) (dUpd i fApp de) :=
  PS.wk (ps_expr (pe_bm PySem.F.plainAttrs_list PySem.F.slot_list_append PySem.F.type_list_append mt_append (pe_var hN hv hd hcd) (pa_cons he pa_nil hs) hbase hfew hline hs hplain) hsw) fun Dd σ H ⟨B, H0, ρ, s, q⟩ => by
    obtain ⟨hl, q⟩ := dUpd_ok q
    obtain ⟨a, vs, xs, e1, e2, h, hs⟩ := own_lst s hi hl
    refine ⟨.ref a, e2, .inl ⟨rfl, _, SqL.at h⟩, ?_⟩
    refine rdS_on s q fun y v H' x s' p q _ => ?_
    obtain ⟨a', d', z, e3, ow', ef, k⟩ := upd_own (G := H') s' hi q
    rw [e2] at e3
    cases e3
    cases ow' with
    | lst h' hs' =>
      obtain ⟨hz, ef⟩ := fApp_ok ef
      subst ef
      exact ⟨a, _, v, rfl, rfl, h', by rw [sl24, hs'.len]; exact hz, k _ (.lst upd_same (hs'.append (.cons p .nil)))⟩
    | dk h' _ _ => cases ef
    | dt h' _ _ => cases ef
theorem vs_extend (he : VM C ma O e de) (hi : i ∈ O := by decide) (hN : C.X.N[i]? = some x := by rfl) (hv : Vis C.X.env.scope x := by first | exact Or.inl rfl | exact Or.inr (Or.inl rfl) | exact Or.inr (Or.inr rfl)) (hd : (x == ("__debug__" : Str)) = false := by decide) (hcd : (x == ("__classdict__" : Str)) = false := by decide)
    (hbase : attributeBase (.Name x p) "extend" C.X.env (eval (.Name x p) C.X.env) = eval (.Name x p) C.X.env := by rfl)
    (hfew : ((backTo p2 (starEach (e :: []) C.X.env)).all (fun x => !x.1) && (backToKw p2 (keywordEach [] C.X.env)).all (fun x => x.1.isSome)
      && decide ((e :: []).length + ([] : List Keyword).length + (if ([] : List Keyword).isEmpty then 0 else 1) < 30)) = true := by rfl)
    (hline : (apos.endLine == p2.line) = true := by rfl) (hs : starEach (e :: []) C.X.env = (false, eval e C.X.env) :: starEach [] C.X.env := by rfl) (hplain : (backTo p2 (starEach [] C.X.env)).any (·.1) = false := by rfl)
    (hsw : swapsWith (.Call (.Attribute (.Name x p) "extend" apos) [e] [] p2) none pos.line C.X.env = pure false := by rfl) :
    VS C Oc O O (.Expr (.Call (.Attribute (.Name x p) "extend" apos) [e] [] p2) pos) (dUpd i fExt de) :=
  PS.wk (ps_expr (pe_bm PySem.F.plainAttrs_list PySem.F.slot_list_extend PySem.F.type_list_extend mt_extend (pe_var hN hv hd hcd) (pa_cons he pa_nil hs) hbase hfew hline hs hplain) hsw) fun Dd σ H ⟨B, H0, ρ, s, q⟩ => by
    obtain ⟨hl, q⟩ := dUpd_ok q
    obtain ⟨a, vs, xs, e1, e2, h, hs⟩ := own_lst s hi hl
    refine ⟨.ref a, e2, .inl ⟨rfl, _, SqL.at h⟩, ?_⟩
    refine rdS_on s q fun y v H' x s' p q _ => ?_
    obtain ⟨a', d', z, e3, ow', ef, k⟩ := upd_own (G := H') s' hi q
    rw [e2] at e3
    cases e3
    cases ow' with
    | lst h' hs' =>
      cases y with
      | lst ys =>
        obtain ⟨hz, ef⟩ := fExt_ok ef
        subst ef
        obtain ⟨b, ws, rfl, eb, hb⟩ := p.lst
        exact ⟨a, b, _, ws, rfl, rfl, h', eb, by rw [sl24, hs'.len, hb.len]; exact hz, k _ (.lst upd_same (hs'.append hb))⟩
      | _ => cases ef
    | dk h' _ _ => cases y <;> cases ef
    | dt h' _ _ => cases y <;> cases ef

/-! ### targets -/
abbrev RhoG := D → Rho → Option Rho
/-- other slots than those of S stay -/
def Oth (S : List Nat) (σ σ' : L2.St) : Prop := σ'.length = σ.length ∧ ∀ j, j ∉ S → σ'[j]? = σ[j]?
theorem Oth.refl {S : List Nat} {σ : L2.St} : Oth S σ σ := ⟨rfl, fun _ _ => rfl⟩
theorem Oth.trans {S1 S2 : List Nat} {σ σ' σ'' : L2.St} (h : Oth S1 σ σ') (h' : Oth S2 σ' σ'') : Oth (S1 ++ S2) σ σ'' := ⟨h'.1.trans h.1, fun j hj => (h'.2 j fun z => hj (List.mem_append_right _ z)).trans (h.2 j fun z => hj (List.mem_append_left _ z))⟩
def rdG (Θ : Th) (O S : List Nat) (g : RhoG) : TG := fun v σ H Q => ∃ B H0 ρ d, Stt Θ B H0 O ρ σ H ∧ Den Θ (hid B σ O H) v d ∧ ∃ ρ', g d ρ = some ρ' ∧ ∀ σ', Oth S σ σ' → Stt Θ B H0 O ρ' σ' H → Vs Θ (hid B σ O H) (hid B σ' O H) → Q σ' H
abbrev VG (C : Ctx) (O S : List Nat) (tg : Expr) (g : RhoG) : Prop := PG C.X tg (rdG C.Θ O S g)
def gN (i : Nat) : RhoG := fun d ρ => if i < ρ.length then some (ρ.set i (some d)) else none
theorem ofN_no (h : i ∉ O) : ofN O i = O := by
  unfold ofN
  rw [List.filter_eq_self]
  intro j hj
  have : j ≠ i := fun z => h (z ▸ hj)
  simpa using this
theorem PG.wk {X : Cx} {tg : Expr} {t t' : TG} (h : PG X tg t) (w : ∀ v σ H Q, t' v σ H Q → t v σ H Q) : PG X tg t' := ⟨fun pins s σ H v u Q I r q => h.run pins s σ H v u Q I r (w _ _ _ _ q)⟩
theorem vg_name (hi : C.X.N[i]? = some x := by rfl) (hx : Loc C.X.env.scope x := by first | exact Or.inl rfl | exact Or.inr rfl) (hO : i ∉ O := by decide) (hf : C.X.fn x = true ∨ C.X.env.scope.names.lookup x = some .local := by first | exact .inl rfl | exact .inr rfl) : VG C O [i] (.Name x pos) (gN i) :=
  PG.wk (pg_name C.nd hi hx hf) fun v σ H Q ⟨B, H0, ρ, d, s, p, ρ', e, q⟩ => by
    unfold gN at e
    split at e
    · rename_i hz
      cases e
      have s' := s.setE (i := i) (s.ilt hz) p
      have x' : Vs C.Θ (hid B σ O H) (hid B (σ.set i (some v)) (ofN O i) H) := vis_set (s.ilt hz)
      rw [ofN_no hO] at s' x'
      exact q _ ⟨List.length_set, fun j hj => List.getElem?_set_ne (fun z => hj (by rw [z]; exact List.mem_singleton.mpr rfl))⟩ s' x'
    · cases e
/-- several targets -/
abbrev RhoGs := List D → Rho → Option Rho
def rdGs (Θ : Th) (O S : List Nat) (g : RhoGs) : TGs := fun vs σ H Q => ∃ B H0 ρ ds, Stt Θ B H0 O ρ σ H ∧ Dens Θ (hid B σ O H) vs ds ∧ ∃ ρ', g ds ρ = some ρ' ∧ ∀ σ', Oth S σ σ' → Stt Θ B H0 O ρ' σ' H → Vs Θ (hid B σ O H) (hid B σ' O H) → Q σ' H
abbrev VGs (C : Ctx) (O S : List Nat) (ts : List Expr) (g : RhoGs) : Prop := PGs C.X ts (rdGs C.Θ O S g)
def gNil : RhoGs := fun ds ρ => match ds with
  | [] => some ρ
  | _ => none
def gCons (g : RhoG) (gs : RhoGs) : RhoGs := fun ds ρ => match ds with
  | d :: ds => match g d ρ with
    | some ρ' => gs ds ρ'
    | none => none
  | [] => none
theorem PGs.wk {X : Cx} {ts : List Expr} {t t' : TGs} (h : PGs X ts t) (w : ∀ v σ H Q, t' v σ H Q → t v σ H Q) : PGs X ts t' := ⟨fun pins s σ H v u Q I r q => h.run pins s σ H v u Q I r (w _ _ _ _ q)⟩
theorem vgs_nil : VGs C O [] [] gNil := PGs.wk pgs_nil fun vs σ H Q ⟨B, H0, ρ, ds, s, p, ρ', e, q⟩ => by
  cases p with
  | nil => cases e; exact ⟨rfl, q σ .refl s .refl⟩
  | cons _ _ => cases e
theorem Vs.dens {Θ : Th} {G G' : Hp} (x : Vs Θ G G') {vs : List V} {ds : List D} (h : Dens Θ G vs ds) : Dens Θ G' vs ds := h.ext x
variable {ts : List Expr} {g : RhoG} {gs : RhoGs} {tg : Expr}
theorem vgs_cons {S1 S2 : List Nat} (h1 : VG C O S1 tg g) (h2 : VGs C O S2 ts gs) (hs : (assignEach (tg :: ts) C.X.env).map (·.2) = assign tg C.X.env :: (assignEach ts C.X.env).map (·.2) := by rfl) : VGs C O (S1 ++ S2) (tg :: ts) (gCons g gs) :=
  PGs.wk (pgs_cons h1 h2 hs) fun vs σ H Q ⟨B, H0, ρ, ds, s, p, ρ', e, q⟩ => by
    cases p with
    | nil => cases e
    | @cons v vs d ds h1 h2 =>
      have e : (match g d ρ with | some ρ' => gs ds ρ' | none => none) = some ρ' := e
      cases eg : g d ρ with
      | none => rw [eg] at e; cases e
      | some ρ1 =>
        rw [eg] at e
        exact ⟨v, vs, rfl, B, H0, ρ, d, s, h1, ρ1, eg, fun σ1 o1 s1 x1 => ⟨B, H0, ρ1, ds, s1, Dens.ext x1 h2, ρ', e, fun σ2 o2 s2 x2 => q σ2 (o1.trans o2) s2 (x1.trans x2)⟩⟩
def gT (n : Nat) (gs : RhoGs) : RhoG := fun d ρ => match d with
  | .tup ds => if ds.length = n then gs ds ρ else none
  | _ => none
theorem vg_tup {k n : Nat} {S : List Nat} (h : VGs C O S ts gs) (hn : (assignEach ts C.X.env).length = n := by rfl) (hst : (assignEach ts C.X.env).findIdx? (·.1) = none := by rfl) : VG C O S (.Tuple ts k pos) (gT n gs) :=
  PG.wk (pg_tup C.calm h hn hst) fun v σ H Q ⟨B, H0, ρ, d, s, p, ρ', e, q⟩ => by
    cases d with
    | tup ds =>
      have e : (if ds.length = n then gs ds ρ else none) = some ρ' := e
      split at e
      · rename_i hz
        cases p with
        | @tup a vs _ ea hs => exact ⟨a, vs, rfl, SqT.at (hid_sub _ _ ea), by rw [hs.len]; exact hz, B, H0, ρ, ds, s, hs, ρ', e, q⟩
      · cases e
    | _ => cases e
/-- target = value -/
def dAsg (de : Rho → Res D) (g : RhoG) : Rho → Out := onD de fun d ρ => match g d ρ with
  | some ρ' => .nx ρ'
  | none => .bad
theorem vs_asg {S : List Nat} (he : VM C .e O e de) (hg : VG C O S tg g) (hs : swapsWithSole [tg] e pos.line C.X.env = pure false := by rfl) (hw : swappedStores [tg] e C.X.env = pure none := by rfl)
    (h1 : (assignEach [tg] C.X.env).map (·.2) = [assign tg C.X.env] := by rfl) : VS C Oc O O (.Assign [tg] e pos) (dAsg de g) :=
  PS.wk (ps_asg he hg hs hw h1) fun Dd σ H ⟨B, H0, ρ, s, q⟩ => rdS_on s q fun d v H' x s' p q _ => by
    cases e : g d ρ with
    | none => rw [e] at q; exact q.elim
    | some ρ' => rw [e] at q; exact ⟨B, H0, ρ, d, s', p, ρ', e, fun σ' _ s2 x2 => q σ' H' s2 x2⟩
end
end Dn

namespace Dn
open PySem PySem.Spec L2
open PyProof.Rows hiding St

section
variable {C : Ctx} {m ma mb mc : Mode} {O O' O1 O2 Oc : List Nat} {e a b c : Expr} {es : List Expr} {den da db dc de : Rho → Res D} {pos p p2 apos : Pos} {dr : Rho → Res (List D)} {st : Stmt} {sts rest els body : List Stmt} {ds d1 d2 : Rho → Out} {x : Str} {i : Nat} {tc : Rho → Res Bool}
variable {ts : List Expr} {g : RhoG} {gs : RhoGs} {tg iter : Expr} {S S1 : List Nat}
/-! ### what is walked -/
/-- J yields what ds tells, in every state that shows what G shows -/
def SrcOk (Θ : Th) (J : It) (G : Hp) (ds : List D) : Prop :=
  ∀ (B : Addr → Prop) (H0 : Hp) (O : List Nat) (i : Nat) (H : Hp) (ρ : Rho) (σ : L2.St), Stt Θ B H0 O ρ σ H → Vs Θ G (hid B σ O H) →
    (∀ d, ds[i]? = some d → J.go i H ∧ ∀ x H', J.yld i H x H' → Ext Θ (Hd B σ O) H H' ∧ Den Θ (hid B σ O H') x d) ∧ (ds.length ≤ i → J.stop i H)
def AftI (Θ : Th) (mg : Str → Option Value) (W : WX) (B : Addr → Prop) (H0 : Hp) (O : List Nat) (ρ : Rho) (σ : L2.St) (H : Hp) (r : Res (List D)) (R : It → Hp → Prop) : Prop :=
  match r with
  | .ok ds => ∀ J H', Ext Θ (Hd B σ O) H H' → Stt Θ B H0 O ρ σ H' → SrcOk Θ J (hid B σ O H') ds → ds.length ≤ 16777216 → R J H'
  | .exc c p => ∀ cls dd H', Ext Θ (Hd B σ O) H H' → Stt Θ B H0 O ρ σ H' → ExcOk Θ mg H' c p cls dd → W cls dd σ H'
  | .bad => False
theorem AftI.seq {Θ : Th} {mg : Str → Option Value} {W : WX} {B : Addr → Prop} {H0 H H' : Hp} {ρ : Rho} {σ : L2.St} {r : Res (List D)} {R : It → Hp → Prop} (x : Ext Θ (Hd B σ O) H H') (h : AftI Θ mg W B H0 O ρ σ H r R) : AftI Θ mg W B H0 O ρ σ H' r R := by
  cases r with
  | ok d => exact fun J H'' y s p => h J H'' (x.trans y) s p
  | exc c p => exact fun cls dd H'' y s e => h cls dd H'' (x.trans y) s e
  | bad => exact h
def rdI (Θ : Th) (mg : Str → Option Value) (W : WX) (O : List Nat) (di : Rho → Res (List D)) : TI := fun σ H R => ∃ B H0 ρ, Stt Θ B H0 O ρ σ H ∧ AftI Θ mg W B H0 O ρ σ H (di ρ) R
abbrev VI (C : Ctx) (O : List Nat) (tg iter : Expr) (di : Rho → Res (List D)) : Prop := PI C.X tg iter (rdI C.Θ C.X.mg C.W O di)
theorem PI.wk {X : Cx} {tg iter : Expr} {t t' : TI} (h : PI X tg iter t) (w : ∀ σ H R, t' σ H R → t σ H R) : PI X tg iter t' := ⟨fun pins s σ H R I q => h.run pins s σ H R I (w _ _ _ q)⟩
theorem PI.or {X : Cx} {tg iter : Expr} {t t' : TI} (h : PI X tg iter t) (h' : PI X tg iter t') : PI X tg iter (fun σ H R => t σ H R ∨ t' σ H R) := ⟨fun pins s σ H R I q => q.elim (h.run pins s σ H R I) (h'.run pins s σ H R I)⟩
/-- with the invariant at hand -/
theorem PI.wkI {X : Cx} {tg iter : Expr} {t t' : TI} (h : PI X tg iter t) (w : ∀ pins s σ H R, Inv X pins σ H s → t' σ H R → t σ H R) : PI X tg iter t' := ⟨fun pins s σ H R I q => h.run pins s σ H R I (w _ _ _ _ _ I q)⟩
theorem rd_iter {Θ : Th} {mg : Str → Option Value} {W : WX} {B : Addr → Prop} {H0 H : Hp} {ρ : Rho} {σ : L2.St} {f : D → Res (List D)} {T : It → Hp → Prop} {R : VK}
    (s : Stt Θ B H0 O ρ σ H) (h : AftI Θ mg W B H0 O ρ σ H ((da ρ).bind f) T) (k : ∀ d v H', da ρ = .ok d → Ext Θ (Hd B σ O) H H' → Stt Θ B H0 O ρ σ H' → PP Θ m B σ O H H' d v → AftI Θ mg W B H0 O ρ σ H' (f d) T → R v H') : rd Θ mg W m O da σ H R := by
  refine ⟨B, H0, ρ, s, ?_⟩
  cases e : da ρ with
  | bad => rw [e] at h; exact h.elim
  | exc c p => rw [e] at h; exact h
  | ok d => rw [e] at h; exact fun v H' x s' p => k d v H' e x s' p (AftI.seq x h)
/-- the items of a list, a tuple, the keys of a dict are walked -/
def walkD : D → Res (List D)
  | .tup xs => .ok xs
  | .lst xs => .ok xs
  | _ => .bad
def dWalk (da : Rho → Res D) : Rho → Res (List D) := fun ρ => (da ρ).bind walkD
theorem src_list {Θ : Th} {K : PySem.W.Frag} {G : Hp} {a : Addr} {vs : List V} {ds : List D} (ea : G a = some (.lst vs)) (hs : Dens Θ G vs ds) : SrcOk Θ (Itl K a) G ds := by
  intro B H0 O i H ρ σ s x
  have e1 : H a = some (.lst vs) := hid_sub _ _ (x.keep ea (fun _ _ z => nomatch z))
  have h1 : Dens Θ (hid B σ O H) vs ds := hs.ext x
  refine ⟨fun d hd => ?_, fun hl => ⟨vs, SqL.at e1, by rw [hs.len]; exact hl⟩⟩
  obtain ⟨v, e2, hv⟩ := h1.get hd
  refine ⟨⟨vs, v, SqL.at e1, e2⟩, fun y H' hy => ?_⟩
  obtain ⟨rfl, hy⟩ := hy
  have := hy vs (SqL.at e1)
  rw [e2] at this
  cases this
  exact ⟨.refl, hv⟩
theorem src_tup {Θ : Th} {K : PySem.W.Frag} {G : Hp} {a : Addr} {vs : List V} {ds : List D} (ea : G a = some (.tup vs)) (hs : Dens Θ G vs ds) : SrcOk Θ (Itt K a) G ds := by
  intro B H0 O i H ρ σ s x
  have e1 : H a = some (.tup vs) := hid_sub _ _ (x.keep ea (fun _ _ z => nomatch z))
  have h1 : Dens Θ (hid B σ O H) vs ds := hs.ext x
  refine ⟨fun d hd => ?_, fun hl => ⟨vs, SqT.at e1, by rw [hs.len]; exact hl⟩⟩
  obtain ⟨v, e2, hv⟩ := h1.get hd
  refine ⟨⟨vs, v, SqT.at e1, e2⟩, fun y H' hy => ?_⟩
  obtain ⟨rfl, hy⟩ := hy
  have := hy vs (SqT.at e1)
  rw [e2] at this
  cases this
  exact ⟨.refl, hv⟩
/-- a row of a heap is not too long -/
theorem Inv.rowLen {X : Cx} {pins : List (Addr × Obj)} {σ : L2.St} {H : Hp} {s : Shared} (I : Inv X pins σ H s) {a : Addr} {vs : List V} (h : H a = some (.lst vs) ∨ H a = some (.tup vs)) : vs.length ≤ 16777216 := by
  rcases h with h | h
  · have := (I.hok a _ h).1
    rw [sl24] at this
    exact this
  · have := (I.hok a _ h).1
    rw [sl24] at this
    exact this
/-- behind the evaluation the invariant may be asked -/
theorem PI.post {X : Cx} {tg iter : Expr} {t : TI} (h : PI X tg iter t) : PI X tg iter (fun σ H R => t σ H fun J H' => (∃ pins s, Inv X pins σ H' s) → R J H') :=
  ⟨fun pins s σ H R I q => thn (h.run pins s σ H _ I q) fun v s1 h1 => thn h1 fun itv s2 ⟨it, fp, tn, J, H', e, I2, T, st, f, r⟩ => ⟨it, fp, tn, J, H', e, I2, T, st, f, r ⟨pins, s2, I2⟩⟩⟩
theorem vi_seq (ha : VM C .e O a da) : VI C O tg a (dWalk da) :=
  PI.wk (PI.or (PI.post (pi_list ha)) (PI.post (pi_tup ha))) fun σ H R ⟨B, H0, ρ, s, q⟩ => by
    by_cases ht : ∃ xs, da ρ = .ok (.tup xs)
    · obtain ⟨xs, ht⟩ := ht
      refine .inr ⟨B, H0, ρ, s, ?_⟩
      unfold dWalk at q
      rw [ht] at q ⊢
      intro v H1 x1 s1 p1
      have p1 : PP C.Θ .e B σ O H H1 (.tup xs) v := p1
      cases p1 with
      | @tup a vs _ ea hs =>
        refine ⟨a, rfl, ⟨vs, SqT.at (hid_sub _ _ ea)⟩, fun ⟨pins, s, I⟩ => q _ H1 x1 s1 (src_tup ea hs) ?_⟩
        rw [← hs.len]
        exact Inv.rowLen I (.inr (hid_sub _ _ ea))
    · refine .inl (rd_iter s q fun d v H1 ed x1 s1 p1 q => ?_)
      cases d with
      | lst xs =>
        have p1 : Den _ _ _ _ := p1
        cases p1 with
        | @lst a vs _ ea hs =>
          refine ⟨a, rfl, ⟨vs, SqL.at (hid_sub _ _ ea)⟩, fun ⟨pins, s, I⟩ => q _ H1 .refl s1 (src_list ea hs) ?_⟩
          rw [← hs.len]
          exact Inv.rowLen I (.inl (hid_sub _ _ ea))
      | tup xs => exact absurd ⟨xs, ed⟩ ht
      | _ => exact q.elim

/-! ### range -/
def rng (lo hi : Int) : List D := (List.range (hi - lo).toNat).map fun (i : Nat) => D.int (lo + i)
theorem rng_len (lo hi : Int) : (rng lo hi).length = (hi - lo).toNat := by simp [rng]
theorem src_range {Θ : Th} {G : Hp} {lo : Int} {n : Nat} : SrcOk Θ (Itr lo n) G ((List.range n).map fun (i : Nat) => D.int (lo + i)) := by
  intro B H0 O i H ρ σ s x
  refine ⟨fun d hd => ?_, fun hl => (by simpa using hl : n ≤ i)⟩
  rw [List.getElem?_map] at hd
  by_cases hi : i < n
  · rw [List.getElem?_range hi] at hd
    cases hd
    refine ⟨hi, fun y H' hy => ?_⟩
    obtain ⟨rfl, rfl⟩ := hy
    exact ⟨.refl, .int _⟩
  · rw [List.getElem?_eq_none (by simpa using hi)] at hd
    cases hd
def dRng1 (da : Rho → Res D) : Rho → Res (List D) := fun ρ => (da ρ).bind fun x => match x with
  | .int j => if j ≤ 16777216 then (if -(2 ^ 62) ≤ j then .ok (rng 0 j) else .bad) else .bad
  | _ => .bad
def dRng2 (da db : Rho → Res D) : Rho → Res (List D) := fun ρ => (da ρ).bind fun x => (db ρ).bind fun y => match x, y with
  | .int i, .int j => if -(2 ^ 62) ≤ i ∧ i < 2 ^ 62 ∧ -(2 ^ 62) ≤ j ∧ j < 2 ^ 62 ∧ j - i ≤ 16777216 then .ok (rng i j) else .bad
  | _, _ => .bad
theorem vi_range1 (hm : C.X.mg "range" = none) (ha : VM C ma O a da) (hg : Gl C.X "range" := by rfl) (hs : starEach [a] C.X.env = [(false, eval a C.X.env)] := by rfl) (hs2 : starEach (a :: []) C.X.env = (false, eval a C.X.env) :: starEach [] C.X.env := by rfl) : VI C O tg (.Call (.Name "range" p) [a] [] pos) (dRng1 da) :=
  PI.wk (pi_range1 hg hm (pa_cons ha pa_nil hs2) hs) fun σ H R ⟨B, H0, ρ, s, q⟩ => rd_iter s q fun d v H1 ed x1 s1 p1 q => by
    cases d with
    | int j =>
      have q : AftI C.Θ C.X.mg C.W B H0 O ρ σ H1 (if j ≤ 16777216 then (if -(2 ^ 62) ≤ j then .ok (rng 0 j) else .bad) else .bad) R := q
      split at q
      · rename_i h1
        split at q
        · rename_i h2
          cases p1.int
          refine ⟨j, rfl, h2, by omega, q _ H1 .refl s1 ?_ (by rw [rng_len]; omega)⟩
          have e : rng 0 j = (List.range j.toNat).map fun (i : Nat) => D.int (0 + i) := by unfold rng; rw [Int.sub_zero]
          rw [e]
          exact src_range
        · exact q.elim
      · exact q.elim
    | _ => exact q.elim
theorem vi_range2 (hm : C.X.mg "range" = none) (ha : VM C ma O a da) (hb : VM C mb O b db) (hg : Gl C.X "range" := by rfl) (hs : starEach [a, b] C.X.env = [(false, eval a C.X.env), (false, eval b C.X.env)] := by rfl) (hs2 : starEach [b] C.X.env = [(false, eval b C.X.env)] := by rfl)
    (hs3 : starEach (a :: [b]) C.X.env = (false, eval a C.X.env) :: starEach [b] C.X.env := by rfl) (hs4 : starEach (b :: []) C.X.env = (false, eval b C.X.env) :: starEach [] C.X.env := by rfl) : VI C O tg (.Call (.Name "range" p) [a, b] [] pos) (dRng2 da db) :=
  PI.wk (pi_range2 hg hm (pa_cons ha (pa_cons hb pa_nil hs4) hs3) hs hs2) fun σ H R ⟨B, H0, ρ, s, q⟩ => rd_iter s q fun d v H1 ed x1 s1 p1 q => rd_iter s1 q fun d2 v2 H2 ed2 x2 s2 p2 q => by
    cases d with
    | int i =>
      cases d2 with
      | int j =>
        have q : AftI C.Θ C.X.mg C.W B H0 O ρ σ H2 (if -(2 ^ 62) ≤ i ∧ i < 2 ^ 62 ∧ -(2 ^ 62) ≤ j ∧ j < 2 ^ 62 ∧ j - i ≤ 16777216 then .ok (rng i j) else .bad) R := q
        split at q
        · rename_i h
          cases p1.int
          cases p2.int
          exact ⟨i, j, rfl, ⟨h.1, h.2.1, h.2.2.1, h.2.2.2.1⟩, q _ H2 .refl s2 src_range (by rw [rng_len]; omega)⟩
        · exact q.elim
      | _ => exact q.elim
    | _ => exact q.elim

/-! ### for -/
def loopD (g : RhoG) (db : Rho → Out) : List D → Rho → Out
  | [], ρ => .nx ρ
  | d :: ds, ρ => match g d ρ with
    | none => .bad
    | some ρ1 => match db ρ1 with
      | .nx ρ2 => loopD g db ds ρ2
      | .ct ρ2 => loopD g db ds ρ2
      | r => r
def onL (di : Rho → Res (List D)) (k : List D → Rho → Out) : Rho → Out := fun ρ => match di ρ with
  | .ok ds => k ds ρ
  | .exc c p => .exc c p ρ
  | .bad => .bad
def dFor (di : Rho → Res (List D)) (g : RhoG) (db : Rho → Out) : Rho → Out := onL di (loopD g db)
variable {di : Rho → Res (List D)} {dbd : Rho → Out}
theorem vs_for (hi : VI C O tg iter di) (hg : VG C O S tg g) (hb : VSs C O O O body dbd) (hs : ∀ x, foldedSetIterable iter C.X.env x = pure x := by intro _; rfl) : VS C Oc O O (.For tg iter body [] pos) (dFor di g dbd) :=
  PS.wk (ps_for C.po C.calm hi hg hb hs) fun Dd σ H ⟨B, H0, ρ, s, q⟩ => by
    refine ⟨B, H0, ρ, s, ?_⟩
    unfold dFor onL at q
    cases e : di ρ with
    | bad => rw [e] at q; exact q.elim
    | exc c p => rw [e] at q; exact fun cls dd H' x s' e => exc_less (P := fun _ _ _ _ => True) x s' q e
    | ok ds =>
      rw [e] at q
      intro J H1 x1 s1 src hlen
      have q1 := AftS.seq x1.vis q
      refine ⟨fun i m σ2 H2 => m = ds.length - i ∧ ∃ ρ2, Stt C.Θ B H0 O ρ2 σ2 H2 ∧ Vs C.Θ (hid B σ O H1) (hid B σ2 O H2) ∧ AftS C.Θ C.X.mg C.W C.fr B H0 O Oc (hid B σ2 O H2) (loopD g dbd (ds.drop i) ρ2) Dd, ⟨_, rfl, ρ, s1, .refl, q1⟩, ?_⟩
      rintro i m σ2 H2 ⟨rfl, ρ2, s2, x2, q2⟩
      obtain ⟨go, stop⟩ := src B H0 O i H2 ρ2 σ2 s2 x2
      by_cases hil : i < ds.length
      · have ed : ds[i]? = some ds[i] := List.getElem?_eq_getElem hil
        obtain ⟨g1, g2⟩ := go _ ed
        have edr : ds.drop i = ds[i] :: ds.drop (i + 1) := List.drop_eq_getElem_cons hil
        rw [edr] at q2
        have again : ∀ σ' H', (∃ ρ', Stt C.Θ B H0 O ρ' σ' H' ∧ Vs C.Θ (hid B σ2 O H2) (hid B σ' O H') ∧ AftS C.Θ C.X.mg C.W C.fr B H0 O Oc (hid B σ2 O H2) (loopD g dbd (ds.drop (i + 1)) ρ') Dd) →
            ∃ m', m' < ds.length - i ∧ (m' = ds.length - (i + 1) ∧ ∃ ρ2, Stt C.Θ B H0 O ρ2 σ' H' ∧ Vs C.Θ (hid B σ O H1) (hid B σ' O H') ∧ AftS C.Θ C.X.mg C.W C.fr B H0 O Oc (hid B σ' O H') (loopD g dbd (ds.drop (i + 1)) ρ2) Dd) := fun σ' H' ⟨ρ', s', x', q'⟩ =>
          ⟨_, by omega, rfl, ρ', s', x2.trans x', AftS.seq x' q'⟩
        refine .inr ⟨g1, _, again, fun y H3 hy => ?_⟩
        obtain ⟨x3, hd⟩ := g2 y H3 hy
        have s3 := s2.up x3
        cases eg : g ds[i] ρ2 with
        | none =>
          have : loopD g dbd (ds[i] :: ds.drop (i + 1)) ρ2 = .bad := by simp [loopD, eg]
          rw [this] at q2
          exact q2.elim
        | some ρ3 =>
          refine ⟨B, H0, ρ2, ds[i], s3, hd, ρ3, eg, fun σ4 _ s4 x4 => ⟨B, H0, ρ3, s4, ?_⟩⟩
          have el : loopD g dbd (ds[i] :: ds.drop (i + 1)) ρ2 = match dbd ρ3 with | .nx ρ2 => loopD g dbd (ds.drop (i + 1)) ρ2 | .ct ρ2 => loopD g dbd (ds.drop (i + 1)) ρ2 | r => r := by simp [loopD, eg]
          rw [el] at q2
          have xx : Vs C.Θ (hid B σ2 O H2) (hid B σ4 O H3) := x3.vis.trans x4
          cases eb : dbd ρ3 with
          | nx ρ5 => rw [eb] at q2; exact fun σ' H' s' x' => ⟨ρ5, s', xx.trans x', q2⟩
          | ct ρ5 => rw [eb] at q2; exact fun σ' H' s' x' => ⟨ρ5, s', xx.trans x', q2⟩
          | rt d => rw [eb] at q2; exact q2
          | exc c p ρ5 => rw [eb] at q2; exact AftS.seq (r := .exc c p ρ5) (Dd := Dd) (O' := O) (Oc := Oc) (Θ := C.Θ) (mg := C.X.mg) (W := C.W) (fr := C.fr) (B := B) (H0 := H0) xx q2
          | bad => rw [eb] at q2; exact q2.elim
      · refine .inl ⟨stop (by omega), ?_⟩
        have edr : ds.drop i = [] := List.drop_eq_nil_of_le (by omega)
        rw [edr] at q2
        exact q2 σ2 H2 s2 .refl
/-! ### while -/
def whD (tc : Rho → Res Bool) (db : Rho → Out) : Nat → Rho → Out
  | 0, _ => .bad
  | n + 1, ρ => match tc ρ with
    | .ok true => (match db ρ with
      | .nx ρ' => whD tc db n ρ'
      | .ct ρ' => whD tc db n ρ'
      | r => r)
    | .ok false => .nx ρ
    | .exc c p => .exc c p ρ
    | .bad => .bad
theorem vs_while (n : Nat) (hc : VT C O c tc) (hb : VSs C O O O body dbd) : VS C Oc O O (.While c body [] pos) (whD tc dbd n) :=
  PS.wk (ps_while C.po hc hb) fun Dd σ H ⟨B, H0, ρ, s, q⟩ => by
    refine ⟨fun m σ2 H2 => ∃ ρ2, Stt C.Θ B H0 O ρ2 σ2 H2 ∧ AftS C.Θ C.X.mg C.W C.fr B H0 O Oc (hid B σ2 O H2) (whD tc dbd m ρ2) Dd, ⟨n, ρ, s, q⟩, ?_⟩
    rintro m σ2 H2 ⟨ρ2, s2, q2⟩
    cases m with
    | zero => exact q2.elim
    | succ m =>
      refine ⟨B, H0, ρ2, s2, ?_⟩
      unfold whD at q2
      cases e : tc ρ2 with
      | bad => rw [e] at q2; exact q2.elim
      | exc c p => rw [e] at q2; exact fun cls dd H' x s' e => exc_less (P := fun _ _ _ _ => True) x s' q2 e
      | ok k =>
        rw [e] at q2
        intro H3 x3 s3
        cases k with
        | false => exact q2 σ2 H3 s3 x3.vis
        | true =>
          have q2 : AftS C.Θ C.X.mg C.W C.fr B H0 O Oc (hid B σ2 O H2) (match dbd ρ2 with | .nx ρ' => whD tc dbd m ρ' | .ct ρ' => whD tc dbd m ρ' | r => r) Dd := q2
          refine ⟨fun σ' H' => ∃ ρ', Stt C.Θ B H0 O ρ' σ' H' ∧ AftS C.Θ C.X.mg C.W C.fr B H0 O Oc (hid B σ' O H') (whD tc dbd m ρ') Dd, fun σ' H' h => ⟨m, Nat.lt_succ_self _, h⟩, B, H0, ρ2, s3, ?_⟩
          cases eb : dbd ρ2 with
          | nx ρ5 => rw [eb] at q2; exact fun σ' H' s' x' => ⟨ρ5, s', AftS.seq (x3.vis.trans x') q2⟩
          | ct ρ5 => rw [eb] at q2; exact fun σ' H' s' x' => ⟨ρ5, s', AftS.seq (x3.vis.trans x') q2⟩
          | rt d => rw [eb] at q2; exact q2
          | exc c p ρ5 => rw [eb] at q2; exact AftS.seq (r := .exc c p ρ5) (Dd := Dd) (O' := O) (Oc := Oc) (Θ := C.Θ) (mg := C.X.mg) (W := C.W) (fr := C.fr) (B := B) (H0 := H0) x3.vis q2
          | bad => rw [eb] at q2; exact q2.elim
end
end Dn

namespace Dn
open PySem PySem.Spec L2
open PyProof.Rows hiding St

/-- the slots forgotten -/
def wipeR (ρ : Rho) : List Nat → Rho
  | [] => ρ
  | v :: vs => (wipeR ρ vs).set v none
section
variable {Θ : Th} {B B' : Addr → Prop} {H0 H H' G G' Hs : Hp} {O : List Nat} {ρ ρ' : Rho} {σ σ' : L2.St} {i : Nat} {d : D} {v : V} {a L : Addr} {vs : List Nat}
theorem wipeR_len : ∀ vs : List Nat, (wipeR ρ vs).length = ρ.length
  | [] => rfl
  | v :: vs => by unfold wipeR; rw [List.length_set, wipeR_len vs]
theorem wipeR_some {x : D} : ∀ {vs : List Nat}, (wipeR ρ vs)[i]? = some (some x) → ρ[i]? = some (some x) ∧ i ∉ vs
  | [], h => ⟨h, by simp⟩
  | v :: vs, h => by
    unfold wipeR at h
    by_cases hi : v = i
    · subst hi
      by_cases hv : v < (wipeR ρ vs).length
      · rw [List.getElem?_set_self hv] at h; cases h
      · rw [List.getElem?_eq_none (by simpa using hv)] at h; cases h
    · rw [List.getElem?_set_ne hi] at h
      obtain ⟨h1, h2⟩ := wipeR_some h
      exact ⟨h1, by simp only [List.mem_cons, not_or]; exact ⟨fun e => hi e.symm, h2⟩⟩
theorem wipe_no : ∀ {vs : List Nat}, i ∉ vs → (wipe σ vs)[i]? = σ[i]?
  | [], _ => rfl
  | v :: vs, h => by
    unfold wipe
    simp only [List.mem_cons, not_or] at h
    rw [List.getElem?_set_ne (Ne.symm h.1), wipe_no h.2]
theorem wipeR_no : ∀ {vs : List Nat}, i ∉ vs → (wipeR ρ vs)[i]? = ρ[i]?
  | [], _ => rfl
  | v :: vs, h => by
    unfold wipeR
    simp only [List.mem_cons, not_or] at h
    rw [List.getElem?_set_ne (Ne.symm h.1), wipeR_no h.2]
theorem wipe_none : ∀ {vs : List Nat}, i ∈ vs → i < σ.length → (wipe σ vs)[i]? = some none
  | v :: vs, h, hl => by
    unfold wipe
    by_cases e : v = i
    · subst e
      exact List.getElem?_set_self (by rw [wipe_length]; exact hl)
    · rw [List.getElem?_set_ne e]
      rcases List.mem_cons.mp h with z | z
      · exact absurd z.symm e
      · exact wipe_none z hl
/-- states alike but for the wiped slots -/
theorem wipe_eq (h : Oth vs σ σ') : wipe σ' vs = wipe σ vs := by
  refine List.ext_getElem? fun j => ?_
  by_cases hj : j ∈ vs
  · by_cases hl : j < σ.length
    · rw [wipe_none hj (by rw [h.1]; exact hl), wipe_none hj hl]
    · rw [List.getElem?_eq_none (by rw [wipe_length, h.1]; omega), List.getElem?_eq_none (by rw [wipe_length]; omega)]
  · rw [wipe_no hj, wipe_no hj, h.2 j hj]
theorem wipe_wipe : wipe (wipe σ vs) vs = wipe σ vs := wipe_eq ⟨wipe_length _ _, fun j hj => wipe_no hj⟩
theorem Hd_same (h : ∀ i, i ∈ O → σ'[i]? = σ[i]?) : Hd B σ' O = Hd B σ O := by
  funext b
  refine propext ⟨?_, ?_⟩
  · rintro (z | ⟨i, hi, e⟩)
    · exact .inl z
    · exact .inr ⟨i, hi, by rw [← h i hi]; exact e⟩
  · rintro (z | ⟨i, hi, e⟩)
    · exact .inl z
    · exact .inr ⟨i, hi, by rw [h i hi]; exact e⟩
theorem Stt.wiped (s : Stt Θ B H0 O ρ σ H) (h : ∀ i, i ∈ O → i ∉ vs) : Stt Θ B H0 O (wipeR ρ vs) (wipe σ vs) H := by
  have e : Hd B (wipe σ vs) O = Hd B σ O := Hd_same fun i hi => wipe_no (h i hi)
  have e2 : hid B (wipe σ vs) O H = hid B σ O H := by unfold hid; rw [e]
  refine ⟨by rw [wipeR_len, wipe_length]; exact s.len, s.ext, s.bex, fun i d hi q => ?_, fun i hi => ?_, fun i j a hi hj e1 e2 => ?_⟩
  · obtain ⟨q1, q2⟩ := wipeR_some q
    obtain ⟨v, q3, q4⟩ := s.val i d hi q1
    exact ⟨v, by rw [wipe_no q2]; exact q3, by rw [e2]; exact q4⟩
  · obtain ⟨a, d, q1, q2, q3, q4, q5⟩ := s.own i hi
    exact ⟨a, d, by rw [wipeR_no (h i hi)]; exact q1, by rw [wipe_no (h i hi)]; exact q2, by rw [e2]; exact q3, q4, q5⟩
  · rw [wipe_no (h i hi)] at e1
    rw [wipe_no (h j hj)] at e2
    exact s.inj i j a hi hj e1 e2
/-- more is kept back -/
def more (B : Addr → Prop) (L : Addr) : Addr → Prop := fun b => B b ∨ b = L
theorem more_sub : ∀ a, B a → more B L a := fun _ h => .inl h
theorem Hd_more : ∀ b, Hd B σ O b → Hd (more B L) σ O b := fun b => by
  rintro (z | z)
  · exact .inl (.inl z)
  · exact .inr z
theorem of_Hd_more {b : Addr} (h : Hd (more B L) σ O b) (n : b ≠ L) : Hd B σ O b := by
  rcases h with (z | z) | z
  · exact .inl z
  · exact absurd z n
  · exact .inr z
theorem hid_new (n : H L = none) {o : HO} : ∀ b u, hid B σ O H b = some u → hid (more B L) σ O (upd H L o) b = some u := fun b u h => by
  obtain ⟨h1, h2⟩ := of_hid h
  have nb : b ≠ L := fun e => by rw [e, n] at h1; cases h1
  exact hid_of (by rw [upd_ne nb]; exact h1) fun z => h2 (of_Hd_more z nb)
theorem Ext.newB {o : HO} (x : Ext Θ B H0 H) (n : H L = none) : Ext Θ (more B L) H0 (upd H L o) := fun b u e => by
  have n0 : H0 L = none := x.new L n
  have nb : b ≠ L := fun z => by rw [z, n0] at e; cases e
  rcases x b u e with q | ⟨np, dx, fs, fs', bk, e1, q, o1, o2, hb, hk⟩
  · exact .inl (by rw [upd_ne nb]; exact q)
  · refine .inr ⟨fun z => z.elim np nb, dx, fs, fs', bk, e1, by rw [upd_ne nb]; exact q, o1, o2, hb.go fun c w hc _ => ?_, hk⟩
    obtain ⟨k1, k2⟩ := of_hide hc
    have nc : c ≠ L := fun z => by rw [z, n] at k1; cases k1
    exact hide_of (by rw [upd_ne nc]; exact k1) fun z => z.elim k2 nc
theorem Stt.newB {o : HO} (s : Stt Θ B H0 O ρ σ H) (n : H L = none) : Stt Θ (more B L) H0 O ρ σ (upd H L o) := by
  have sh : Shows Θ (hid B σ O H) H (hid (more B L) σ O (upd H L o)) (upd H L o) :=
    ⟨hid_sub, ⟨fun _ => False, .same (same_new n)⟩, fun b u u' h1 h2 => by
      have := hid_new (o := o) n b u h1
      rw [hid_sub _ _ this] at h2
      cases h2
      exact this⟩
  refine ⟨s.len, s.ext.newB n, fun b hb => ?_, fun i d hi e => ?_, fun i hi => ?_, s.inj⟩
  · by_cases z : b = L
    · rw [z, upd_same]; exact fun y => nomatch y
    · rw [upd_ne z]; exact s.bex b (hb.resolve_right z)
  · obtain ⟨v, e1, q⟩ := s.val i d hi e
    exact ⟨v, e1, Den.shows sh q⟩
  · obtain ⟨a, d, e1, e2, q, nb, n0⟩ := s.own i hi
    have na : a ≠ L := fun z => by rw [z] at q; exact q.there n
    exact ⟨a, d, e1, e2, q.up (fun _ _ => Dens.shows sh) (fun u _ z => by rw [upd_ne na]; exact z), fun z => z.elim nb na, n0⟩
theorem Stt.lessB (s : Stt Θ B' H0 O ρ σ H) (h : ∀ b, B b → B' b) : Stt Θ B H0 O ρ σ H := by
  have hm : ∀ b, Hd B σ O b → Hd B' σ O b := fun b => by
    rintro (z | z)
    · exact .inl (h b z)
    · exact .inr z
  have sh : Shows Θ (hid B' σ O H) H (hid B σ O H) H := ⟨hid_sub, ⟨fun _ => False, .refl⟩, fun b o o' h1 h2 => by rw [hid_sub _ _ h1] at h2; cases h2; exact hide_mono hm _ _ h1⟩
  exact ⟨s.len, s.ext.mono h, fun b hb => s.bex b (h b hb), fun i d hi e => let ⟨v, e1, q⟩ := s.val i d hi e; ⟨v, e1, Den.shows sh q⟩,
    fun i hi => let ⟨a, d, e1, e2, q, nb, n0⟩ := s.own i hi; ⟨a, d, e1, e2, q.up (fun _ _ => Dens.shows sh) (fun _ _ z => z), fun z => nb (h a z), n0⟩, s.inj⟩
/-- the list that is kept back is changed -/
theorem hid_kept (h : B' L) {o : HO} : hid B' σ O (upd H L o) = hid B' σ O H := by
  funext b
  by_cases hb : Hd B' σ O b
  · have n : ∀ K : Hp, hid B' σ O K b = none := fun K => by
      cases q : hid B' σ O K b with
      | none => rfl
      | some o => exact absurd hb (of_hid q).2
    rw [n, n]
  · have nb : b ≠ L := fun z => hb (.inl (z ▸ h))
    cases q : H b with
    | none =>
      have n : ∀ K : Hp, K b = none → hid B' σ O K b = none := fun K hk => by
        cases q : hid B' σ O K b with
        | none => rfl
        | some o => rw [(of_hid q).1] at hk; cases hk
      rw [n H q, n _ (by rw [upd_ne nb]; exact q)]
    | some o' => rw [hid_of q hb, hid_of (by rw [upd_ne nb]; exact q) hb]
theorem Ext.kept {o : HO} {vs : List V} (x : Ext Θ B' H H') (h : H L = none) (hL : H' L = some (.lst vs)) : Ext Θ B' H (upd H' L o) := fun b u e => by
  have nb : b ≠ L := fun z => by rw [z, h] at e; cases e
  rcases x b u e with q | ⟨np, dx, fs, fs', bk, e1, q, o1, o2, hb, hk⟩
  · exact .inl (by rw [upd_ne nb]; exact q)
  · refine .inr ⟨np, dx, fs, fs', bk, e1, by rw [upd_ne nb]; exact q, o1, o2, hb.go fun c w hc hw => ?_, hk⟩
    obtain ⟨k1, k2⟩ := of_hide hc
    have nc : c ≠ L := by
      rintro rfl
      rw [hL] at k1
      cases k1
      rcases hw with ⟨_, z⟩ | ⟨_, _, z⟩ <;> cases z
    exact hide_of (by rw [upd_ne nc]; exact k1) k2
theorem Stt.kept {o : HO} {vs : List V} (s : Stt Θ B' H0 O ρ σ H) (h : B' L) (h0 : H0 L = none) (hL : H L = some (.lst vs)) : Stt Θ B' H0 O ρ σ (upd H L o) := by
  have e : hid B' σ O (upd H L o) = hid B' σ O H := hid_kept h
  refine ⟨s.len, s.ext.kept h0 hL, fun b hb => ?_, fun i d hi q => by rw [e]; exact s.val i d hi q, fun i hi => ?_, s.inj⟩
  · by_cases z : b = L
    · rw [z, upd_same]; exact fun y => nomatch y
    · rw [upd_ne z]; exact s.bex b hb
  · obtain ⟨a, d, e1, e2, q, nb, n0⟩ := s.own i hi
    have na : a ≠ L := fun z => nb (z ▸ h)
    exact ⟨a, d, e1, e2, by rw [e]; exact q.up (fun _ _ z => z) (fun u _ z => by rw [upd_ne na]; exact z), nb, n0⟩
end
end Dn

namespace Dn
open PySem PySem.Spec L2
open PyProof.Rows hiding St

/-- within a comprehension -/
def Ctx.blk (C : Ctx) (s : Shared) (H : Hp) (scope : Scope) (Cn : Addr) (cl : List (Str × Addr)) (fp : List Addr) : Ctx where
  X := C.X.blk s H scope (compEnvC scope cl Cn C.X.env) fp
  Θ := C.Θ
  W := fun _ _ _ _ => False
  fr := C.fr
  lv := C.lv
  hK := C.hK
  calm := C.calm
  tk := fun _ _ ⟨_, _, _, _, _, _, _, _, _, _, _, _, _, _, _, _, w⟩ => w
  po := PassesOwn.never
  nd := C.nd
  room := C.room
section
variable {C : Ctx} {m ma mb mc : Mode} {O O' O1 O2 Oc : List Nat} {e a b c elt tg iter tg1 iter1 : Expr} {es ifs ifs1 : List Expr} {den da db dc de te : Rho → Res D} {pos p p2 apos : Pos} {x : Str} {i : Nat} {tc tt tt1 : Rho → Res Bool} {g g1 : RhoG} {S S1 : List Nat} {di di1 : Rho → Res (List D)} {scope : Scope} {own : List (Str × Nat)}
abbrev VTs (C : Ctx) (O : List Nat) (ifs : List Expr) (t : Rho → Res Bool) : Prop := PTs C.X ifs (rdT C.Θ C.X.mg C.W O t)
def dYes : Rho → Res Bool := fun _ => .ok true
theorem PTs.wk {X : Cx} {e : List Expr} {t t' : TT} (h : PTs X e t) (w : ∀ σ H Q, t' σ H Q → t σ H Q) : PTs X e t' := ⟨fun pins s σ H Q I q => h.run pins s σ H Q I (w _ _ _ q)⟩
theorem vts_nil : VTs C O [] dYes := PTs.wk pts_nil fun σ H Q ⟨B, H0, ρ, s, q⟩ => q H .refl s
theorem vts_one (h : VT C O c tc) : VTs C O [c] tc := pts_one h
/-- the items that a comprehension makes -/
def lcD (g : RhoG) (tt : Rho → Res Bool) (te : Rho → Res D) (ρ : Rho) : List D → Res (List D)
  | [] => .ok []
  | d :: ds => match g d ρ with
    | none => .bad
    | some ρ1 => match tt ρ1 with
      | .ok true => (match te ρ1 with
        | .ok y => (lcD g tt te ρ ds).bind fun ys => .ok (y :: ys)
        | _ => .bad)
      | .ok false => lcD g tt te ρ ds
      | _ => .bad
def dLc (di : Rho → Res (List D)) (vs : List Nat) (g : RhoG) (tt : Rho → Res Bool) (te : Rho → Res D) : Rho → Res D := fun ρ =>
  (di ρ).bind fun ds => (lcD g tt te (wipeR ρ vs) ds).bind fun ys => .ok (.lst ys)
theorem rdI_bind {Θ : Th} {mg : Str → Option Value} {W : WX} {B : Addr → Prop} {H0 H Hs : Hp} {ρ : Rho} {σ : L2.St} {f : List D → Res D} {T : VK} {R : It → Hp → Prop}
    (s : Stt Θ B H0 O ρ σ H) (h : Aft Θ mg W m B H0 O ρ σ Hs H ((di ρ).bind f) T) (k : ∀ ds J H', Ext Θ (Hd B σ O) H H' → Stt Θ B H0 O ρ σ H' → SrcOk Θ J (hid B σ O H') ds → ds.length ≤ 16777216 → Aft Θ mg W m B H0 O ρ σ Hs H' (f ds) T → R J H') : rdI Θ mg W O di σ H R := by
  refine ⟨B, H0, ρ, s, ?_⟩
  generalize di ρ = r at h ⊢
  cases r with
  | bad => exact h.elim
  | exc c p => exact h
  | ok ds => exact fun J H' x s' p hl => k ds J H' x s' p hl (Aft.seq x h)
/-- the comprehension's turns: what stands between two of them -/
structure LcI (Θ : Th) (B : Addr → Prop) (H0 H1 : Hp) (O : List Nat) (ρ : Rho) (σ : L2.St) (L : Addr) (H : Hp) (done : List D) : Prop where
  st : Stt Θ (more B L) H0 O ρ σ H
  ex : Ext Θ (Hd B σ O) H1 H
  ac : ∃ acc, H L = some (.lst acc) ∧ Dens Θ (hid (more B L) σ O H) acc done
section
variable {Θ : Th} {B : Addr → Prop} {H0 H1 H H' : Hp} {ρ : Rho} {σ σ' : L2.St} {L : Addr} {done : List D} {y : D} {v : V} {vs : List Nat}
theorem LcI.start (s : Stt Θ B H0 O ρ σ H1) (n : H1 L = none) : LcI Θ B H0 H1 O ρ σ L (upd H1 L (.lst [])) [] :=
  ⟨s.newB n, .same (same_new n), [], upd_same, .nil⟩
/-- what is new stays behind what is kept back -/
theorem LcI.up (h : LcI Θ B H0 H1 O ρ σ L H done) (x : Ext Θ (Hd (more B L) σ O) H H') : LcI Θ B H0 H1 O ρ σ L H' done := by
  obtain ⟨acc, h1, h2⟩ := h.ac
  exact ⟨h.st.up x, h.ex.trans (x.mono Hd_more), acc, x.lst h1, Dens.shows (shows_hid x) h2⟩
theorem LcI.push (h : LcI Θ B H0 H1 O ρ σ L H done) (n : H1 L = none) (x0 : Ext Θ B H0 H1) (p : Den Θ (hid (more B L) σ O H) v y) {acc : List V} (hL : H L = some (.lst acc)) : LcI Θ B H0 H1 O ρ σ L (upd H L (.lst (acc ++ [v]))) (done ++ [y]) := by
  obtain ⟨acc', h1, h2⟩ := h.ac
  rw [hL] at h1
  cases h1
  refine ⟨h.st.kept (.inr rfl) (x0.new L n) hL, h.ex.kept n hL, acc ++ [v], upd_same, ?_⟩
  rw [hid_kept (.inr rfl)]
  exact h2.append (.cons p .nil)
/-- at the end the list is new -/
theorem LcI.fin (h : LcI Θ B H0 H1 O ρ σ L H done) (s1 : Stt Θ B H0 O ρ σ H1) (n : H1 L = none) {Hs : Hp} (nh : ∀ a, H1 a = none → Hs a = none) : Stt Θ B H0 O ρ σ H ∧ PP Θ .f B σ O Hs H (.lst done) (.ref L) := by
  obtain ⟨acc, h1, h2⟩ := h.ac
  refine ⟨h.st.lessB fun _ z => .inl z, L, rfl, nh L n, s1.fresh n, .lst h1 (Dens.shows ⟨hid_sub, ⟨fun _ => False, .refl⟩, fun b o o' k1 k2 => ?_⟩ h2)⟩
  obtain ⟨q1, q2⟩ := of_hid k1
  exact cut_of (hid_of k2 fun z => q2 (Hd_more _ z)) fun z => q2 (.inl (.inr z))
end
theorem lc_len {ds done : List D} {i : Nat} (hl : ds.length ≤ 16777216) (hi : i < ds.length) (hd : done.length ≤ i) : done.length < sizeLine := by
  rw [sl24]; omega
/-- one clause -/
theorem lc_rd {Q : VK} {σ : L2.St} {H : Hp} (hO : ∀ i, i ∈ O → i ∉ own.map (·.2)) (hS : ∀ i, i ∈ S → i ∈ own.map (·.2))
    (h : rd C.Θ C.X.mg C.W .f O (dLc di (own.map (·.2)) g tt te) σ H Q) :
    tLc (rdI C.Θ C.X.mg C.W O di) (rdG C.Θ O S g) (rdT C.Θ C.X.mg (fun _ _ _ _ => False) O tt) (rd C.Θ C.X.mg (fun _ _ _ _ => False) .e O te) (own.map (·.2)) σ H Q := by
  obtain ⟨B, H0, ρ, s, q⟩ := h
  refine rdI_bind s q fun ds J H1 x1 s1 src hlen q => ?_
  intro L nL
  generalize hvs : own.map (·.2) = vs at *
  refine ⟨fun i m H2 => m = ds.length - i ∧ ∃ done, LcI C.Θ B H0 H1 O ρ σ L H2 done ∧ done.length ≤ i ∧ Vs C.Θ (hid B σ O H1) (hid (more B L) σ O H2) ∧
    Aft C.Θ C.X.mg C.W .f B H0 O ρ σ H H1 ((lcD g tt te (wipeR ρ vs) (ds.drop i)).bind fun ys => .ok (.lst (done ++ ys))) Q,
    ⟨_, rfl, [], LcI.start s1 nL, Nat.le_refl _, Vs.same (hid_new nL), q⟩, ?_⟩
  rintro i m H2 ⟨rfl, done, hI, hdl, hV, q2⟩
  have sw : Stt C.Θ (more B L) H0 O (wipeR ρ vs) (wipe σ vs) H2 := hI.st.wiped hO
  have eH : Hd (more B L) (wipe σ vs) O = Hd (more B L) σ O := Hd_same fun i hi => wipe_no (hO i hi)
  have eh : ∀ K, hid (more B L) (wipe σ vs) O K = hid (more B L) σ O K := fun K => by unfold hid; rw [eH]
  obtain ⟨go, stop⟩ := src (more B L) H0 O i H2 ρ σ hI.st hV
  by_cases hil : i < ds.length
  · have ed : ds[i]? = some ds[i] := List.getElem?_eq_getElem hil
    obtain ⟨g1, g2⟩ := go _ ed
    have edr : ds.drop i = ds[i] :: ds.drop (i + 1) := List.drop_eq_getElem_cons hil
    rw [edr] at q2
    refine .inr ⟨g1, fun H' => ∃ done, LcI C.Θ B H0 H1 O ρ σ L H' done ∧ done.length ≤ i + 1 ∧ Vs C.Θ (hid B σ O H1) (hid (more B L) σ O H') ∧
      Aft C.Θ C.X.mg C.W .f B H0 O ρ σ H H1 ((lcD g tt te (wipeR ρ vs) (ds.drop (i + 1))).bind fun ys => .ok (.lst (done ++ ys))) Q, fun H' hN => ⟨_, by omega, rfl, hN⟩, fun y H3 hy => ?_⟩
    obtain ⟨x3, hd⟩ := g2 y H3 hy
    have hI3 := hI.up x3
    have sw3 : Stt C.Θ (more B L) H0 O (wipeR ρ vs) (wipe σ vs) H3 := hI3.st.wiped hO
    cases eg : g ds[i] (wipeR ρ vs) with
    | none =>
      have e : lcD g tt te (wipeR ρ vs) (ds[i] :: ds.drop (i + 1)) = .bad := by simp [lcD, eg]
      rw [e] at q2
      exact q2.elim
    | some ρ3 =>
      have e : lcD g tt te (wipeR ρ vs) (ds[i] :: ds.drop (i + 1)) = match tt ρ3 with
        | .ok true => (match te ρ3 with
          | .ok y => (lcD g tt te (wipeR ρ vs) (ds.drop (i + 1))).bind fun ys => .ok (y :: ys)
          | _ => .bad)
        | .ok false => lcD g tt te (wipeR ρ vs) (ds.drop (i + 1))
        | _ => .bad := by simp [lcD, eg]
      rw [e] at q2
      refine ⟨more B L, H0, wipeR ρ vs, ds[i], sw3, by rw [eh]; exact hd, ρ3, eg, fun σ4 o4 s4 x4 => ⟨?_, more B L, H0, ρ3, s4, ?_⟩⟩
      · have o4' : Oth vs (wipe σ vs) σ4 := ⟨o4.1, fun j hj => o4.2 j fun z => hj (hS j z)⟩
        rw [wipe_eq o4', wipe_wipe]
      have eH4 : Hd (more B L) σ4 O = Hd (more B L) σ O := by
        rw [← eH]
        exact Hd_same fun i hi => o4.2 i fun z => hO i hi (hS i z)
      have eh4 : ∀ K, hid (more B L) σ4 O K = hid (more B L) σ O K := fun K => by unfold hid; rw [eH4]
      cases et : tt ρ3 with
      | bad => rw [et] at q2; exact q2.elim
      | exc c p => rw [et] at q2; exact q2.elim
      | ok k =>
        rw [et] at q2
        intro H5 x5 s5
        rw [eH4] at x5
        have hI5 := hI3.up x5
        have hV5 : Vs C.Θ (hid B σ O H1) (hid (more B L) σ O H5) := (hV.trans x3.vis).trans x5.vis
        cases k with
        | false => exact ⟨done, hI5, by omega, hV5, q2⟩
        | true =>
          show rd C.Θ C.X.mg (fun _ _ _ _ => False) .e O te σ4 H5 _
          refine ⟨more B L, H0, ρ3, s5, ?_⟩
          cases ee : te ρ3 with
          | bad => rw [ee] at q2; exact q2.elim
          | exc c p => rw [ee] at q2; exact q2.elim
          | ok z =>
            rw [ee] at q2
            intro v H6 x6 s6 p6
            rw [eH4] at x6
            have hI6 := hI5.up x6
            obtain ⟨acc, hL, hacc⟩ := hI6.ac
            have p6 : Den C.Θ (hid (more B L) σ4 O H6) v z := p6
            rw [eh4] at p6
            refine ⟨acc, hL, by rw [hacc.len]; exact lc_len hlen hil hdl, done ++ [z], hI6.push nL s1.ext p6 hL, by simp; omega, ?_, ?_⟩
            · rw [hid_kept (.inr rfl)]
              exact hV5.trans x6.vis
            · have q2 : Aft C.Θ C.X.mg C.W .f B H0 O ρ σ H H1 (((lcD g tt te (wipeR ρ vs) (ds.drop (i + 1))).bind fun ys => .ok (z :: ys)).bind fun ys => .ok (.lst (done ++ ys))) Q := q2
              have e3 : (((lcD g tt te (wipeR ρ vs) (ds.drop (i + 1))).bind fun ys => Res.ok (z :: ys)).bind fun ys => Res.ok (D.lst (done ++ ys))) = (lcD g tt te (wipeR ρ vs) (ds.drop (i + 1))).bind fun ys => Res.ok (D.lst ((done ++ [z]) ++ ys)) := by
                cases lcD g tt te (wipeR ρ vs) (ds.drop (i + 1)) with
                | ok ys => simp [Res.bind]
                | exc c p => rfl
                | bad => rfl
              rw [← e3]
              exact q2
  · refine .inl ⟨stop (by omega), ?_⟩
    have edr : ds.drop i = [] := List.drop_eq_nil_of_le (by omega)
    rw [edr] at q2
    have q2 : Aft C.Θ C.X.mg C.W .f B H0 O ρ σ H H1 (.ok (.lst (done ++ []))) Q := q2
    rw [List.append_nil] at q2
    obtain ⟨s2, p2⟩ := hI.fin s1 nL (fun a n => x1.new a n)
    exact q2 _ H2 hI.ex s2 p2
theorem vf_lc (hi : VI C O tg iter di) (ok : BlkOk C.X.N C.X.env.scope scope own) (hg : ∀ s H Cn cl fp, VG (C.blk s H scope Cn cl fp) O S tg g) (ht : ∀ s H Cn cl fp, VTs (C.blk s H scope Cn cl fp) O ifs tt) (he : ∀ s H Cn cl fp, VM (C.blk s H scope Cn cl fp) .e O elt te)
    (hO : ∀ i, i ∈ O → i ∉ own.map (·.2) := by decide) (hS : ∀ i, i ∈ S → i ∈ own.map (·.2) := by decide) (hs : ∀ x, foldedSetIterable iter C.X.env x = pure x := by intro _; rfl) :
    VM C .f O (.ListComp elt [⟨tg, iter, ifs, 0⟩] scope pos) (dLc di (own.map (·.2)) g tt te) :=
  PE.wk (pe_lc (g := rdG C.Θ O S g) (tt := rdT C.Θ C.X.mg (fun _ _ _ _ => False) O tt) (te := rd C.Θ C.X.mg (fun _ _ _ _ => False) .e O te) C.calm C.nd hi ok hg ht he hs) fun σ H Q h => lc_rd hO hS h
/-- name = [..] on one line -/
theorem vs_setLc {y : Str} {py spos : Pos} (hi : VI C O tg iter di) (ok : BlkOk C.X.N C.X.env.scope scope own) (hg : ∀ s H Cn cl fp, VG (C.blk s H scope Cn cl fp) O S tg g) (ht : ∀ s H Cn cl fp, VTs (C.blk s H scope Cn cl fp) O ifs tt) (he : ∀ s H Cn cl fp, VM (C.blk s H scope Cn cl fp) .e O elt te)
    (hsw : swapsWith (.ListComp elt [⟨tg, iter, ifs, 0⟩] scope pos) (some (.Name y py)) spos.line C.X.env = pure true) (hy : C.X.N[i]? = some y := by rfl) (hyl : C.X.env.scope.names.lookup y = some .local := by rfl)
    (hO : ∀ i, i ∈ O → i ∉ own.map (·.2) := by decide) (hS : ∀ i, i ∈ S → i ∈ own.map (·.2) := by decide) (hs : ∀ x, foldedSetIterable iter C.X.env x = pure x := by intro _; rfl) :
    VS C Oc O (i :: ofN O i) (.Assign [.Name y py] (.ListComp elt [⟨tg, iter, ifs, 0⟩] scope pos) spos) (dSet i (dLc di (own.map (·.2)) g tt te)) :=
  PS.wk (ps_setLc (g := rdG C.Θ O S g) (tt := rdT C.Θ C.X.mg (fun _ _ _ _ => False) O tt) (te := rd C.Θ C.X.mg (fun _ _ _ _ => False) .e O te) C.calm C.nd hy hyl hsw hi ok hg ht he hs) fun Dd σ H ⟨B, H0, ρ, s, q⟩ => by
    refine lc_rd hO hS (Q := fun x H1 => L2.gName i x σ H1 Dd.nx) ?_
    refine rdS_on (C := C) (O' := i :: ofN O i) (Oc := Oc) s q fun d v H' x s' p _ q => ?_
    obtain ⟨hz, q⟩ := setR_ok (H := H) (σ := σ) q
    obtain ⟨a, rfl, n, nh, ow⟩ := p
    exact q _ _ (s.setF (s.ilt hz) x n nh ow) (vis_setF (s.ilt hz) x n ow)
end

/-! ### a def -/
def toRes (fr : Bool) (r : Out) : Res D := match r with
  | .nx _ => if fr = true then .bad else .ok .non
  | .ct _ => .bad
  | .rt d => .ok d
  | .exc c p _ => .exc c p
  | .bad => .bad
/-- what a def's body hands back -/
def runD (fr : Bool) (den : Rho → Out) (n : Nat) (ds : List D) : Res D := toRes fr (den (ds.map some ++ List.replicate (n - ds.length) none))
section
variable {P : Program} {w : World} {K : PySem.W.Frag} {mg : Str → Option Value} {base : Heap} {Θ : Th}
/-- the context of a def's body -/
def mkC (Θ : Th) (hΘ : Θ.K = K) (fr : Bool) (k : Nat) (N : List Str) (hN : N.Nodup) (qual : Str) (scope : Scope) (f : Addr) (cd : Value) (A : Around) (outer : List Env) (s : Shared) (H : Hp) (E : XK) (hr : Room k (A.deeper (envOfC qual scope s.heap.objs.size f cd))) : Ctx where
  X := cxOf (L2.CX P w) P w K mg base N qual scope f cd A outer s H E
  Θ := Θ
  W := fun cls d _ H => E cls d H
  fr := fr
  lv := k
  hK := hΘ
  calm := rfl
  tk := takes_of rfl rfl rfl rfl
  po := passes_of rfl
  nd := hN
  room := hr
theorem Stt.init {B : Addr → Prop} {H : Hp} {vs : List V} {ds : List D} {n : Nat} (hB : ∀ b, B b → H b ≠ none) (h : Dens Θ (hide B H) vs ds) (N : List Str) :
    Stt Θ B H [] (ds.map some ++ List.replicate (N.length - ds.length) none) (L2.start N vs) H := by
  have hl := h.len
  have e : Hd B (L2.start N vs) [] = B := by
    funext b
    refine propext ⟨?_, .inl⟩
    rintro (z | ⟨i, hi, _⟩)
    · exact z
    · cases hi
  refine ⟨?_, .refl, hB, fun i d _ q => ?_, (fun i hi => by cases hi), (fun i j a hi => by cases hi)⟩
  · unfold L2.start
    rw [List.length_append, List.length_append, List.length_map, List.length_map, List.length_replicate, List.length_replicate, hl]
  · unfold hid
    rw [e]
    have hi : i < ds.length := by
      by_cases hi : i < ds.length
      · exact hi
      · rw [List.getElem?_append_right (by simpa using hi)] at q
        rw [List.getElem?_replicate] at q
        split at q <;> cases q
    rw [List.getElem?_append_left (by simpa using hi), List.getElem?_map] at q
    cases q2 : ds[i]? with
    | none => rw [q2] at q; cases q
    | some d' =>
      rw [q2] at q
      cases q
      obtain ⟨v, e1, e2⟩ := h.get q2
      refine ⟨v, ?_, e2⟩
      unfold L2.start
      rw [List.getElem?_append_left (by rw [List.length_map, hl]; exact hi), List.getElem?_map, e1]
      rfl
theorem def_ok {x : Str} {st : Stmt} {g : Addr} {fd : FuncData} {N ps : List Str} {k : Nat} {fr : Bool} {den : Rho → Out} {O' : List Nat} (hΘ : Θ.K = K) (F : Fun K x x st g fd) (hg : mg x = some (.ref g)) (hb : Binds K fd ps []) (S : FnScope N ps (defScope st))
    (body : ∀ (cdv : Value) (A : Around) (outer : List Env) (s : Shared) (H : Hp) (E : XK) (hr : Room k (A.deeper (envOfC x (defScope st) s.heap.objs.size g cdv))),
      VSs (mkC (P := P) (w := w) (K := K) (mg := mg) (base := base) Θ hΘ fr k N S.nd x (defScope st) g cdv A outer s H E hr) [] [] O' (defBody st) den) :
    FOk P w K mg base Θ x (k + 1) fr ps.length (runD fr den N.length) := by
  refine ⟨g, fd, ps, hg, F.kp, hb, rfl, F.okX S (fun vs H Q E ⟨B, ds, _, hn, hs, _⟩ => by rw [hs.len]; exact hn) fun cdv A outer s H vs Q E hr ⟨B, ds, hB, hn, hs, q⟩ => ⟨_, body cdv A outer s H E hr, B, H, _, Stt.init (n := ps.length) hB hs N, ?_⟩⟩
  unfold runD at q
  generalize den (ds.map some ++ List.replicate (N.length - ds.length) none) = r at q ⊢
  cases r with
  | bad => exact q.elim
  | ct ρ' => exact q.elim
  | rt d => exact fun v H' x p => q v H' x p
  | exc c p ρ' => exact fun cls dd σ' H' s' _ e => q cls dd H' s'.ext e
  | nx ρ' =>
    cases fr with
    | true => exact q.elim
    | false => exact fun σ' H' s' _ => q .non H' s'.ext .non
end
end Dn

namespace Dn
open PySem PySem.Spec L2
open PyProof.Rows hiding St

section
variable {C : Ctx} {m ma mb mc : Mode} {O O' O1 O2 Oc : List Nat} {e a b c : Expr} {es : List Expr} {den da db dc de : Rho → Res D} {pos p p2 apos : Pos} {dr : Rho → Res (List D)} {st : Stmt} {sts rest els body : List Stmt} {ds d1 d2 : Rho → Out} {x y : Str} {i j : Nat} {tc : Rho → Res Bool}
/-! ### code that is never reached -/
def dNo : Rho → Out := fun _ => .bad
theorem vs_never : VS C Oc O O' st dNo := PS.wk ps_never fun Dd σ H ⟨B, H0, ρ, s, q⟩ => q.elim
/-! ### texts -/
def strsD : List D → Option (List Str)
  | [] => some []
  | .str b :: ds => (strsD ds).map (b :: ·)
  | _ :: _ => none
theorem Dens.strs {Θ : Th} {G : Hp} : ∀ {vs : List V} {ds : List D} {bs : List Str}, Dens Θ G vs ds → strsD ds = some bs → vs = bs.map V.str
  | _, _, _, .nil, h => by cases h; rfl
  | _, d :: ds, bs, .cons h1 h2, h => by
    cases h1 with
    | str b =>
      have h : (strsD ds).map (b :: ·) = some bs := h
      cases e : strsD ds with
      | none => rw [e] at h; cases h
      | some r =>
        rw [e] at h
        cases h
        rw [List.map_cons, Dens.strs h2 e]
    | _ => cases h
theorem dens_strs {Θ : Th} {G : Hp} : ∀ ys : List Str, Dens Θ G (ys.map V.str) (ys.map D.str)
  | [] => .nil
  | y :: ys => .cons (.str y) (dens_strs ys)
/-- a text's method of one argument -/
def dM1 (f : Str → D → Res D) (da db : Rho → Res D) : Rho → Res D := fun ρ => (da ρ).bind fun x => match x with
  | .str a => (db ρ).bind fun y => f a y
  | _ => .bad
def StrD (C : Ctx) (mb m : Mode) (O : List Nat) (f : Str → D → Res D) (r : V → List V → Hp → VK → Prop) : Prop :=
  ∀ {B H0 ρ σ Hs H a d v Q}, (∀ a, H a = none → Hs a = none) → Stt C.Θ B H0 O ρ σ H → PP C.Θ mb B σ O Hs H d v → Aft C.Θ C.X.mg C.W m B H0 O ρ σ Hs H (f a d) Q → r (.str a) [v] H Q
theorem m1_rd {f : Str → D → Res D} {r : V → List V → Hp → VK → Prop} (hD : StrD C mb m O f r) {σ : L2.St} {H : Hp} {Q : VK} (h : rd C.Θ C.X.mg C.W m O (dM1 f da db) σ H Q) : tM1 r (rd C.Θ C.X.mg C.W ma O da) (rd C.Θ C.X.mg C.W mb O db) σ H Q := by
  obtain ⟨B, H0, ρ, s, q⟩ := h
  refine rd_bind nh_refl s q fun d1 v1 H1 x1 s1 p1 q => ?_
  cases d1 with
  | str a =>
    cases p1.str
    exact ⟨⟨a, rfl⟩, rd_bind (fun a n => x1.new a n) s1 q fun d2 v2 H2 x2 s2 p2 q => hD (fun a n => x1.new a (x2.new a n)) s2 p2 q⟩
  | _ => exact q.elim
def joinD (a : Str) (ds : List D) : Res D := match strsD ds with
  | some ys => if (ys.map (·.length)).sum + ys.length * a.length ≤ 16777216 then .ok (.str (Txt.join a ys)) else .bad
  | none => .bad
def fJoin (a : Str) (xs : D) : Res D := match xs with
  | .lst ds => joinD a ds
  | .tup ds => joinD a ds
  | _ => .bad
def fSplit (a : Str) (x : D) : Res D := match x with
  | .str b => if (b.length == 0) = false ∧ a.length + 2 ≤ 16777216 then .ok (.lst ((Txt.split a b).map D.str)) else .bad
  | _ => .bad
theorem ve_join (ha : VM C ma O a da) (hb : VM C mb O b db) (hs : starEach [b] C.X.env = [(false, eval b C.X.env)] := by rfl) (hbase : attributeBase a "join" C.X.env (eval a C.X.env) = eval a C.X.env := by rfl) (hline : (apos.endLine == pos.line) = true := by rfl) :
    VM C .e O (.Call (.Attribute a "join" apos) [b] [] pos) (dM1 fJoin da db) :=
  PE.wk (pe_join ha hb hs hbase hline) fun σ H Q h => m1_rd (fun {B H0 ρ σ Hs H a d v Q} nh s p q => by
    have fin : ∀ {ds : List D} {p : Addr} {vs : List V}, Dens C.Θ (hid B σ O H) vs ds → (H p = some (.lst vs) ∨ H p = some (.tup vs)) → Aft C.Θ C.X.mg C.W .e B H0 O ρ σ Hs H (joinD a ds) Q →
        ∃ a_1 p_1, ∃ ys : List Str, V.str a = .str a_1 ∧ [V.ref p] = [.ref p_1] ∧ (SqL C.X.K H p_1 (ys.map V.str) ∨ SqT C.X.K H p_1 (ys.map V.str)) ∧ (ys.map (·.length)).sum + ys.length * a_1.length ≤ 16777216 ∧ Q (.str (Txt.join a_1 ys)) H := fun {ds p vs} hs hp q => by
      unfold joinD at q
      cases e : strsD ds with
      | none => rw [e] at q; exact q.elim
      | some ys =>
        rw [e] at q
        obtain ⟨hz, q⟩ := Aft.ite q
        have := hs.strs e
        subst this
        exact ⟨a, p, ys, rfl, rfl, hp.elim (fun z => .inl (SqL.at z)) fun z => .inr (SqT.at z), hz, Aft.val s q (PP.scal fun _ => .str _)⟩
    cases d with
    | lst ds =>
      obtain ⟨p, vs, rfl, ep, hs⟩ := p.lst
      exact fin hs (.inl ep) q
    | tup ds =>
      obtain ⟨p, vs, rfl, ep, hs⟩ := p.tup
      exact fin hs (.inr ep) q
    | _ => exact q.elim) h
theorem vf_split (ha : VM C ma O a da) (hb : VM C mb O b db) (hs : starEach [b] C.X.env = [(false, eval b C.X.env)] := by rfl) (hbase : attributeBase a "split" C.X.env (eval a C.X.env) = eval a C.X.env := by rfl) (hline : (apos.endLine == pos.line) = true := by rfl) :
    VM C .f O (.Call (.Attribute a "split" apos) [b] [] pos) (dM1 fSplit da db) :=
  PE.wk (pe_split ha hb hs hbase hline) fun σ H Q h => m1_rd (fun {B H0 ρ σ Hs H a d v Q} nh s p q => by
    cases d with
    | str b =>
      obtain ⟨⟨h1, h2⟩, q⟩ := Aft.ite q
      exact ⟨a, b, rfl, by rw [p.str], h1, by rw [sl24]; exact h2, fun l n => Aft.newL nh s n (dens_strs _) q⟩
    | _ => exact q.elim) h

/-! ### sorted, min, max over data -/
def alikeB (ds : List D) : Bool := ds.all fun d => ds.all fun e => PySem.W.alike (toP d) (toP e)
def tupB (d : D) : Bool := match d with
  | .tup (_ :: _) => true
  | _ => false
def flatD (d : D) : Bool := match d with
  | .non => false
  | .tup _ => false
  | _ => true
def itemsOf : D → Option (List D)
  | .tup xs => some xs
  | .lst xs => some xs
  | _ => none

section
variable {α : Type} (le : α → α → Bool)
def mergeF : Nat → List α → List α → List α
  | 0, _, _ => []
  | _ + 1, [], ys => ys
  | _ + 1, x :: xs, [] => x :: xs
  | n + 1, x :: xs, y :: ys => if le x y = true then x :: mergeF n xs (y :: ys) else y :: mergeF n (x :: xs) ys
theorem mergeF_eq : ∀ (n : Nat) (xs ys : List α), xs.length + ys.length < n → mergeF le n xs ys = List.merge xs ys le
  | 0, _, _, h => absurd h (Nat.not_lt_zero _)
  | n + 1, [], ys, _ => by simp [mergeF]
  | n + 1, x :: xs, [], _ => by simp [mergeF]
  | n + 1, x :: xs, y :: ys, h => by
    simp only [List.length_cons] at h
    rw [mergeF, List.cons_merge_cons, mergeF_eq n xs (y :: ys) (by simp only [List.length_cons]; omega), mergeF_eq n (x :: xs) ys (by simp only [List.length_cons]; omega)]
def msortF : Nat → List α → List α
  | 0, _ => []
  | _ + 1, [] => []
  | _ + 1, [a] => [a]
  | n + 1, a :: b :: xs => mergeF le ((a :: b :: xs).length + 1) (msortF n ((a :: b :: xs).take (((a :: b :: xs).length + 1) / 2))) (msortF n ((a :: b :: xs).drop (((a :: b :: xs).length + 1) / 2)))
theorem msortF_eq : ∀ (n : Nat) (xs : List α), xs.length < n → msortF le n xs = xs.mergeSort le
  | 0, _, h => absurd h (Nat.not_lt_zero _)
  | n + 1, [], _ => by simp [msortF]
  | n + 1, [a], _ => by simp [msortF]
  | n + 1, a :: b :: xs, h => by
    have hl : (a :: b :: xs).length = xs.length + 2 := rfl
    have e1 := msortF_eq n ((a :: b :: xs).take (((a :: b :: xs).length + 1) / 2)) (by rw [List.length_take, hl]; omega)
    have e2 := msortF_eq n ((a :: b :: xs).drop (((a :: b :: xs).length + 1) / 2)) (by rw [List.length_drop, hl]; rw [hl] at h; omega)
    rw [msortF, e1, e2, mergeF_eq]
    · rw [List.mergeSort]
      simp only [List.MergeSort.Internal.splitInTwo_fst, List.MergeSort.Internal.splitInTwo_snd]
    · rw [List.length_mergeSort, List.length_mergeSort, List.length_take, List.length_drop]
      omega
end
def sortD (ds : List D) : List D := msortF (PySem.W.dataLe false toP) (ds.length + 1) ds
theorem sortD_def (ds : List D) : sortD ds = ds.mergeSort (PySem.W.dataLe false toP) := msortF_eq _ _ _ (Nat.lt_succ_self _)
def fSorted (d : D) : Res D := match d with
  | .lst ds => if pls ds = true ∧ alikeB ds = true ∧ (ds.all tupB = true ∨ ds.all flatD = true) ∧ deps ds ≤ 60 then .ok (.lst (sortD ds)) else .bad
  | _ => .bad
theorem each_of {Θ : Th} {G : Hp} {R : Value → D → Prop} : ∀ {vs : List V} {ds : List D} {us : List Value}, Dens Θ G vs ds → Vals vs us → (∀ v d u, Den Θ G v d → RelV v u → R u d) → PySem.W.EachIs R us ds
  | _, _, _, .nil, .nil, _ => .nil
  | _, _, _, .cons h hs, .cons r rs, f => .cons (f _ _ _ h r) (each_of hs rs f)
theorem of_each {Θ : Th} {G : Hp} : ∀ {us : List Value} {ds : List D}, PySem.W.EachIs (fun u d => ∃ v, RelV v u ∧ Den Θ G v d) us ds → ∃ vs, Vals vs us ∧ Dens Θ G vs ds
  | _, _, .nil => ⟨[], .nil, .nil⟩
  | _, _, .cons ⟨v, r, h⟩ t => let ⟨vs, rs, hs⟩ := of_each t; ⟨v :: vs, .cons r rs, .cons h hs⟩
theorem pls_mem {ds : List D} (h : pls ds = true) : ∀ d ∈ ds, pl d = true := by
  induction ds with
  | nil => intro d hd; cases hd
  | cons x xs ih =>
    simp only [pls, Bool.and_eq_true] at h
    intro d hd
    rcases List.mem_cons.mp hd with rfl | hd
    · exact h.1
    · exact ih h.2 d hd
theorem deps_mem {ds : List D} {n : Nat} (h : deps ds ≤ n) : ∀ d ∈ ds, dep d ≤ n := by
  induction ds with
  | nil => intro d hd; cases hd
  | cons x xs ih =>
    simp only [deps] at h
    intro d hd
    rcases List.mem_cons.mp hd with rfl | hd
    · omega
    · exact ih (by omega) d hd
theorem Dens.readsAll {X : Cx} {pins : List (Addr × Obj)} {σ : L2.St} {H G : Hp} {s : Shared} {Θ : Th} (I : Inv X pins σ H s) (sub : ∀ a o, G a = some o → H a = some o) {vs : List V} {us : List Value} {ds : List D} (h : Dens Θ G vs ds) (r : Vals vs us) (p : pls ds = true) : ∃ as, ReadsAll s.heap us (toPs ds) as :=
  Dp.readsAll I _ vs us (Dens.dp sub h p) r
theorem Den.reads {X : Cx} {pins : List (Addr × Obj)} {σ : L2.St} {H G : Hp} {s : Shared} {Θ : Th} (I : Inv X pins σ H s) (sub : ∀ a o, G a = some o → H a = some o) {v : V} {u : Value} {d : D} (h : Den Θ G v d) (r : RelV v u) (p : pl d = true) : ∃ as, Reads s.heap u (toP d) as :=
  Dp.reads I _ v u (Den.dp sub h p) r
def rSortD : List V → Hp → VK → Prop := fun xs H Q => ∃ (a : Addr) (vs : List V) (Θ : Th) (G : Hp) (ds : List D), xs = [.ref a] ∧ H a = some (.lst vs) ∧ (∀ a o, G a = some o → H a = some o) ∧ Dens Θ G vs ds ∧
  pls ds = true ∧ alikeB ds = true ∧ (ds.all tupB = true ∨ ds.all flatD = true) ∧ deps ds ≤ 60 ∧ ∀ p ws, H p = none → Dens Θ G ws (sortD ds) → Q (.ref p) (upd H p (.lst ws))
theorem sort_each {Θ : Th} {G : Hp} {us : List Value} {ds : List D} (h : PySem.W.EachIs (fun u d => ∃ v, RelV v u ∧ Den Θ G v d) us ds) : True := trivial
theorem call_sortedA : CallR C.X (.builtin "sorted") rSortD := by
  intro pins s σ H xs us Q I r h
  obtain ⟨a, vs, Θ, G, ds, rfl, ea, sub, hs, h1, h2, h3, h4, q⟩ := h
  obtain ⟨its, rv, hl, hz⟩ := I.list (SqL.at ea)
  rw [Vals.ref1 r]
  have e1 : PySem.W.EachIs (fun u d => ∃ v, RelV v u ∧ Den Θ G v d) its ds := each_of hs rv fun v d u hd hr => ⟨v, hr, hd⟩
  have mem : ∀ {vs : List V} {es : List D} {us : List Value}, Dens Θ G vs es → Vals vs us → (∀ d ∈ es, pl d = true) → PySem.W.EachIs (fun u b => ∃ as, Reads s.heap u (toP b) as) us es := by
    intro vs es
    induction es generalizing vs with
    | nil => intro us h r _; cases h; cases r; exact .nil
    | cons d es ih =>
      intro us h r hp
      cases h with
      | cons k1 k2 =>
        cases r with
        | cons r1 r2 => exact .cons (Den.reads I sub k1 r1 (hp d List.mem_cons_self)) (ih k2 r2 fun z hz => hp z (List.mem_cons_of_mem _ hz))
  have e2 := mem hs rv (pls_mem h1)
  refine PySem.W.sorted_data (enc := toP) hl.isList e1 e2 ?_ ?_ ?_ ?_ fun out hlen e3 => ?_
  · intro x hx y hy
    obtain ⟨d, hd, rfl⟩ := List.mem_map.mp hx
    obtain ⟨e, he, rfl⟩ := List.mem_map.mp hy
    exact List.all_eq_true.mp (List.all_eq_true.mp h2 d hd) e he
  · rcases h3 with h3 | h3
    · refine .inl fun x hx => ?_
      obtain ⟨d, hd, rfl⟩ := List.mem_map.mp hx
      have := List.all_eq_true.mp h3 d hd
      cases d with
      | tup ys =>
        cases ys with
        | nil => cases this
        | cons y ys => exact ⟨toP y, toPs ys, by simp [toP, toPs]⟩
      | _ => cases this
    · refine .inr fun x hx => ?_
      obtain ⟨d, hd, rfl⟩ := List.mem_map.mp hx
      have := List.all_eq_true.mp h3 d hd
      cases d <;> first | (exfalso; simp [flatD] at this; done) | (refine ⟨?_, ?_⟩ <;> simp [toP])
  · rw [← hs.len]; exact hz
  · intro d hd
    rw [toP_dep d (pls_mem h1 d hd)]
    have := deps_mem h4 d hd
    have := C.units
    omega
  · obtain ⟨ws, rw', hw⟩ := of_each e3
    obtain ⟨ep, he'⟩ := PyProof.Rows.sortedAll_at s.heap its out.toArray
    have hl2 : ws.length ≤ sizeLine := by
      rw [hw.len, List.length_mergeSort, ← hs.len]; exact hz
    have J : Inv C.X pins σ (upd H (s.heap.objs.size + 1) (.lst ws)) { s with heap := PyProof.Rows.sortedAll s.heap its out.toArray, toks := s.toks } :=
      I.laid (fun _ _ z => PyProof.Rows.sortedAll_old z) (Nat.le_succ _) ⟨hl2, out, ep, rw', he'⟩
    exact ⟨.ref _, _, J, rfl, q _ ws (I.hok.fresh (Nat.le_succ _)) (by rw [sortD_def]; exact hw)⟩
theorem cd_sorted : CallD1 C ma .f O fSorted rSortD := by
  intro B H0 ρ σ Hs H d v Q nh s p h
  cases d with
  | lst ds =>
    obtain ⟨a, vs, rfl, ea, hs⟩ := p.lst
    obtain ⟨⟨h1, h2, h3, h4⟩, h⟩ := Aft.ite h
    exact ⟨a, vs, C.Θ, hid B σ O H, ds, rfl, ea, hid_sub, hs, h1, h2, h3, h4, fun p ws n hw => Aft.newL nh s n hw h⟩
  | _ => exact h.elim
theorem vf_sorted (hm : C.X.mg "sorted" = none) (ha : VM C ma O a da) (hg : Gl C.X "sorted" := by rfl) (hs : starEach (a :: []) C.X.env = (false, eval a C.X.env) :: starEach [] C.X.env := by rfl) (hpl : (backTo pos (starEach [] C.X.env)).any (·.1) = false := by rfl) :
    VM C .f O (.Call (.Name "sorted" p) [a] [] pos) (dUn fSorted da) := ve_callB call_sortedA cd_sorted hm ha (by decide +kernel) hg (by decide) (by decide) hs hpl

/-- the first of the least -/
def minDs (x : D) (xs : List D) : D := xs.foldl (fun a y => if ltD y a = true then y else a) x
def maxDs (x : D) (xs : List D) : D := xs.foldl (fun a y => if ltD a y = true then y else a) x
theorem minDs_mem (x : D) (xs : List D) : minDs x xs ∈ x :: xs := by
  unfold minDs
  induction xs generalizing x with
  | nil => exact List.mem_cons_self
  | cons y ys ih =>
    rw [List.foldl_cons]
    by_cases h : ltD y x = true
    · rw [if_pos h]
      rcases List.mem_cons.mp (ih y) with e | e
      · rw [e]; exact List.mem_cons_of_mem _ List.mem_cons_self
      · exact List.mem_cons_of_mem _ (List.mem_cons_of_mem _ e)
    · rw [if_neg h]
      rcases List.mem_cons.mp (ih x) with e | e
      · rw [e]; exact List.mem_cons_self
      · exact List.mem_cons_of_mem _ (List.mem_cons_of_mem _ e)
theorem maxDs_mem (x : D) (xs : List D) : maxDs x xs ∈ x :: xs := by
  unfold maxDs
  induction xs generalizing x with
  | nil => exact List.mem_cons_self
  | cons y ys ih =>
    rw [List.foldl_cons]
    by_cases h : ltD x y = true
    · rw [if_pos h]
      rcases List.mem_cons.mp (ih y) with e | e
      · rw [e]; exact List.mem_cons_of_mem _ List.mem_cons_self
      · exact List.mem_cons_of_mem _ (List.mem_cons_of_mem _ e)
    · rw [if_neg h]
      rcases List.mem_cons.mp (ih x) with e | e
      · rw [e]; exact List.mem_cons_self
      · exact List.mem_cons_of_mem _ (List.mem_cons_of_mem _ e)
theorem minDs_toP (x : D) (xs : List D) : PySem.W.minD (toP x) (toPs xs) = toP (minDs x xs) := by
  unfold PySem.W.minD minDs
  induction xs generalizing x with
  | nil => simp [toPs]
  | cons y ys ih =>
    simp only [toPs, List.foldl_cons]
    show (toPs ys).foldl _ (if ltD y x = true then toP y else toP x) = _
    by_cases h : ltD y x = true
    · rw [if_pos h, if_pos h]; exact ih y
    · rw [if_neg h, if_neg h]; exact ih x
theorem maxDs_toP (x : D) (xs : List D) : PySem.W.maxD (toP x) (toPs xs) = toP (maxDs x xs) := by
  unfold PySem.W.maxD maxDs
  induction xs generalizing x with
  | nil => simp [toPs]
  | cons y ys ih =>
    simp only [toPs, List.foldl_cons]
    show (toPs ys).foldl _ (if ltD x y = true then toP y else toP x) = _
    by_cases h : ltD x y = true
    · rw [if_pos h, if_pos h]; exact ih y
    · rw [if_neg h, if_neg h]; exact ih x
/-- data that can be ordered, None not among them -/
def ordAll (ds : List D) : Bool := pls ds && alikeB ds && ds.all (fun d => match d with | .non => false | _ => true) && decide (deps ds ≤ 60)
def fMin (d : D) : Res D := match itemsOf d with
  | some (x :: xs) => if ordAll (x :: xs) = true then .ok (minDs x xs) else .bad
  | _ => .bad
def fMax (d : D) : Res D := match itemsOf d with
  | some (x :: xs) => if ordAll (x :: xs) = true then .ok (maxDs x xs) else .bad
  | _ => .bad
def rMinD (f : D → List D → D) : List V → Hp → VK → Prop := fun xs H Q => ∃ (a : Addr) (vs : List V) (Θ : Th) (G : Hp) (x : D) (ds : List D), xs = [.ref a] ∧ (H a = some (.lst vs) ∨ H a = some (.tup vs)) ∧ (∀ a o, G a = some o → H a = some o) ∧ Dens Θ G vs (x :: ds) ∧
  ordAll (x :: ds) = true ∧ ∀ v, Den Θ G v (f x ds) → Q v H
theorem ord_parts {ds : List D} (h : ordAll ds = true) : pls ds = true ∧ alikeB ds = true ∧ (∀ d ∈ ds, toP d ≠ .none) ∧ deps ds ≤ 60 := by
  simp only [ordAll, Bool.and_eq_true, decide_eq_true_eq] at h
  refine ⟨h.1.1.1, h.1.1.2, fun d hd => ?_, h.2⟩
  have := List.all_eq_true.mp h.1.2 d hd
  cases d <;> first | (simp [toP]; done) | cases this
theorem ord_alike {ds : List D} (h : ordAll ds = true) : PySem.W.AlikeAll (toPs ds) := by
  obtain ⟨h1, h2, h3, h4⟩ := ord_parts h
  rw [toPs_map]
  refine ⟨fun x hx y hy => ?_, fun x hx => ?_⟩
  · obtain ⟨d, hd, rfl⟩ := List.mem_map.mp hx
    obtain ⟨e, he, rfl⟩ := List.mem_map.mp hy
    exact List.all_eq_true.mp (List.all_eq_true.mp h2 d hd) e he
  · obtain ⟨d, hd, rfl⟩ := List.mem_map.mp hx
    exact h3 d hd
/-- an item that reads as a datum of the row is that datum's value -/
theorem item_den {X : Cx} {pins : List (Addr × Obj)} {σ : L2.St} {H G : Hp} {s : Shared} {Θ : Th} (I : Inv X pins σ H s) (sub : ∀ a o, G a = some o → H a = some o) {vs : List V} {us : List Value} {ds : List D} (h : Dens Θ G vs ds) (r : Vals vs us) (p : pls ds = true)
    {i : Nat} {u : Value} {z : D} {bs : List Addr} {h' : Heap} (hu : us[i]? = some u) (hz : z ∈ ds) (hr : Reads h' u (toP z) bs) (kp : ∀ b o, s.heap.get? b = some o → h'.get? b = some o) : ∃ v, RelV v u ∧ Den Θ G v z := by
  have hi : i < us.length := (List.getElem?_eq_some_iff.mp hu).1
  have hi2 : i < ds.length := by rw [← h.len, r.length]; exact hi
  obtain ⟨v, e1, e2⟩ := h.get (List.getElem?_eq_getElem hi2)
  obtain ⟨u', e3, e4⟩ := r.get e1
  rw [hu] at e3
  cases e3
  refine ⟨v, e4, ?_⟩
  have pd : pl ds[i] = true := pls_mem p _ (List.getElem_mem hi2)
  obtain ⟨as, r2⟩ := Den.reads I sub e2 e4 pd
  have := PySem.SeqAt.plain_unique _ _ u as bs (toP_plain _ pd) (PyProof.Rows.Reads.keeps kp r2) hr
  rw [toP_inj _ _ pd (pls_mem p z hz) this] at e2
  exact e2
theorem call_minA : CallR C.X (.builtin "min") (rMinD minDs) := by
  intro pins s σ H xs us Q I r h
  obtain ⟨a, vs, Θ, G, x, ds, rfl, ea, sub, hs, ho, q⟩ := h
  obtain ⟨h1, h2, h3, h4⟩ := ord_parts ho
  rw [Vals.ref1 r]
  have hu : C.X.A.units + 1 + PyData.depthAll (toPs (x :: ds)) < cLine := by
    rw [toPs_dep _ h1]
    have := C.units
    omega
  have fin : ∀ {us : List Value}, Vals vs us → ∀ (i : Nat) v h' tk bs, us.toArray[i]? = some v → Reads h' v (PySem.W.minD (toP x) (toPs ds)) bs → (∀ b o, s.heap.get? b = some o → h'.get? b = some o) → EP C.X pins σ Q v { s with heap := h', toks := tk } := fun {us} rv i v h' tk bs hv hr kp => by
    rw [minDs_toP] at hr
    obtain ⟨w, r1, hd⟩ := item_den I sub hs rv h1 (by simpa using hv) (minDs_mem x ds) hr kp
    exact ⟨w, H, I.kept kp, r1, q w hd⟩
  rcases ea with ea | ea
  · obtain ⟨its, rv, hl, hz⟩ := I.list (SqL.at ea)
    obtain ⟨as, hra⟩ := Dens.readsAll I sub hs rv h1
    simp only [toPs] at hra hu
    exact PySem.W.min_list_data (vs := its.toArray) (I.ok.hd C.calm) hl.isList hra (by have := ord_alike ho; simpa only [toPs] using this) hu (fin rv)
  · obtain ⟨its, rv, hl, hz⟩ := I.tuple (SqT.at ea)
    obtain ⟨as, hra⟩ := Dens.readsAll I sub hs rv h1
    simp only [toPs] at hra hu
    exact PySem.W.min_tuple_data (vs := its.toArray) (I.ok.hd C.calm) hl hra (by have := ord_alike ho; simpa only [toPs] using this) hu (fin rv)
theorem call_maxA : CallR C.X (.builtin "max") (rMinD maxDs) := by
  intro pins s σ H xs us Q I r h
  obtain ⟨a, vs, Θ, G, x, ds, rfl, ea, sub, hs, ho, q⟩ := h
  obtain ⟨h1, h2, h3, h4⟩ := ord_parts ho
  rw [Vals.ref1 r]
  have hu : C.X.A.units + 1 + PyData.depthAll (toPs (x :: ds)) < cLine := by
    rw [toPs_dep _ h1]
    have := C.units
    omega
  have fin : ∀ {us : List Value}, Vals vs us → ∀ (i : Nat) v h' tk bs, us.toArray[i]? = some v → Reads h' v (PySem.W.maxD (toP x) (toPs ds)) bs → (∀ b o, s.heap.get? b = some o → h'.get? b = some o) → EP C.X pins σ Q v { s with heap := h', toks := tk } := fun {us} rv i v h' tk bs hv hr kp => by
    rw [maxDs_toP] at hr
    obtain ⟨w, r1, hd⟩ := item_den I sub hs rv h1 (by simpa using hv) (maxDs_mem x ds) hr kp
    exact ⟨w, H, I.kept kp, r1, q w hd⟩
  rcases ea with ea | ea
  · obtain ⟨its, rv, hl, hz⟩ := I.list (SqL.at ea)
    obtain ⟨as, hra⟩ := Dens.readsAll I sub hs rv h1
    simp only [toPs] at hra hu
    exact PySem.W.max_list_data (vs := its.toArray) (I.ok.hd C.calm) hl.isList hra (by have := ord_alike ho; simpa only [toPs] using this) hu (fin rv)
  · obtain ⟨its, rv, hl, hz⟩ := I.tuple (SqT.at ea)
    obtain ⟨as, hra⟩ := Dens.readsAll I sub hs rv h1
    simp only [toPs] at hra hu
    exact PySem.W.max_tuple_data (vs := its.toArray) (I.ok.hd C.calm) hl hra (by have := ord_alike ho; simpa only [toPs] using this) hu (fin rv)
theorem cd_min1 {f : D → List D → D} : CallD1 C ma .e O (fun d => match itemsOf d with | some (x :: xs) => if ordAll (x :: xs) = true then .ok (f x xs) else .bad | _ => .bad) (rMinD f) := by
  intro B H0 ρ σ Hs H d v Q nh s p h
  have fin : ∀ {ds : List D} {a : Addr} {vs : List V}, (H a = some (.lst vs) ∨ H a = some (.tup vs)) → Dens C.Θ (hid B σ O H) vs ds → itemsOf d = some ds → rMinD f [.ref a] H Q := fun {ds a vs} ha hs e => by
    have h : Aft C.Θ C.X.mg C.W .e B H0 O ρ σ Hs H (match itemsOf d with | some (x :: xs) => if ordAll (x :: xs) = true then .ok (f x xs) else .bad | _ => .bad) Q := h
    rw [e] at h
    cases ds with
    | nil => exact h.elim
    | cons x xs =>
      obtain ⟨ho, h⟩ := Aft.ite h
      exact ⟨a, vs, C.Θ, hid B σ O H, x, xs, rfl, ha, hid_sub, hs, ho, fun v hv => Aft.val s h hv⟩
  cases d with
  | lst ds =>
    obtain ⟨a, vs, rfl, ea, hs⟩ := p.lst
    exact fin (.inl ea) hs rfl
  | tup ds =>
    obtain ⟨a, vs, rfl, ea, hs⟩ := p.tup
    exact fin (.inr ea) hs rfl
  | _ => exact h.elim
theorem ve_min (hm : C.X.mg "min" = none) (ha : VM C ma O a da) (hg : Gl C.X "min" := by rfl) (hs : starEach (a :: []) C.X.env = (false, eval a C.X.env) :: starEach [] C.X.env := by rfl) (hpl : (backTo pos (starEach [] C.X.env)).any (·.1) = false := by rfl) :
    VM C .e O (.Call (.Name "min" p) [a] [] pos) (dUn fMin da) := ve_callB call_minA cd_min1 hm ha (by decide +kernel) hg (by decide) (by decide) hs hpl
theorem ve_max (hm : C.X.mg "max" = none) (ha : VM C ma O a da) (hg : Gl C.X "max" := by rfl) (hs : starEach (a :: []) C.X.env = (false, eval a C.X.env) :: starEach [] C.X.env := by rfl) (hpl : (backTo pos (starEach [] C.X.env)).any (·.1) = false := by rfl) :
    VM C .e O (.Call (.Name "max" p) [a] [] pos) (dUn fMax da) := ve_callB call_maxA cd_min1 hm ha (by decide +kernel) hg (by decide) (by decide) hs hpl

/-! ### a, b = x, y -/
def dPar (i j : Nat) (dr : Rho → Res (List D)) : Rho → Out := fun ρ => match dr ρ with
  | .ok [u, v] => if i < ρ.length ∧ j < ρ.length then .nx ((ρ.set i (some u)).set j (some v)) else .bad
  | .ok _ => .bad
  | .exc c p => .exc c p ρ
  | .bad => .bad
theorem vs_par {px py pt : Pos} {kt k2 pt2} (ha : VL C O [a, b] dr) (hij : i ≠ j := by decide) (hi : C.X.N[i]? = some x := by rfl) (hj : C.X.N[j]? = some y := by rfl) (hx : C.X.env.scope.names.lookup x = some .local := by rfl) (hy : C.X.env.scope.names.lookup y = some .local := by rfl)
    (hw : swappedStores [.Tuple [.Name x px, .Name y py] kt pt] (.Tuple [a, b] k2 pt2) C.X.env = pure (some [x, y]) := by rfl) (hs : swapsWithSole [.Tuple [.Name x px, .Name y py] kt pt] (.Tuple [a, b] k2 pt2) pos.line C.X.env = pure false := by rfl) :
    VS C Oc O (ofN (ofN O i) j) (.Assign [.Tuple [.Name x px, .Name y py] kt pt] (.Tuple [a, b] k2 pt2) pos) (dPar i j dr) :=
  PS.wk (ps_par C.calm C.nd hi hj hij hx hy ha hw hs) fun Dd σ H ⟨B, H0, ρ, s, q⟩ => by
    refine ⟨B, H0, ρ, s, ?_⟩
    unfold dPar at q
    generalize dr ρ = r at q ⊢
    cases r with
    | bad => exact q.elim
    | exc c p => exact fun cls dd H' x s' e => exc_less (P := fun _ _ _ _ => True) x s' q e
    | ok ds =>
      intro vs H' x s' hs'
      cases hs' with
      | nil => exact q.elim
      | @cons v1 vs1 d1 ds1 h1 t1 =>
        cases t1 with
        | nil => exact q.elim
        | @cons v2 vs2 d2 ds2 h2 t2 =>
          cases t2 with
          | cons _ _ => exact q.elim
          | nil =>
            have q : AftS C.Θ C.X.mg C.W C.fr B H0 (ofN (ofN O i) j) Oc (hid B σ O H) (if i < ρ.length ∧ j < ρ.length then .nx ((ρ.set i (some d1)).set j (some d2)) else .bad) Dd := q
            split at q
            · rename_i hz
              have s1 := s'.setE (i := i) (s'.ilt hz.1) h1
              have hj2 : j < (σ.set i (some v1)).length := by rw [List.length_set]; exact s'.ilt hz.2
              have h2' := Den.shows (shows_less (hid_set (s'.ilt hz.1) (v := v1))) h2
              refine ⟨v1, v2, rfl, q _ _ (s1.setE hj2 h2') ((x.vis.trans (vis_set (s'.ilt hz.1))).trans (vis_set hj2))⟩
            · exact q.elim
end
end Dn

namespace Dn
open PySem PySem.Spec L2
open PyProof.Rows hiding St

section
variable {C : Ctx} {m ma mb mc : Mode} {O O' O1 O2 Oc : List Nat} {e a b c elt tg iter tg1 iter1 : Expr} {es ifs ifs1 : List Expr} {den da db dc de te : Rho → Res D} {pos p p2 apos : Pos} {x : Str} {i : Nat} {tc tt tt1 : Rho → Res Bool} {g g1 : RhoG} {S S1 : List Nat} {di di1 : Rho → Res (List D)} {scope : Scope} {own : List (Str × Nat)} {vs1 : List Nat}
/-- two clauses -/
def lcD2 (g : RhoG) (tt : Rho → Res Bool) (di1 : Rho → Res (List D)) (vs1 : List Nat) (g1 : RhoG) (tt1 : Rho → Res Bool) (te : Rho → Res D) (ρ : Rho) : List D → Res (List D)
  | [] => .ok []
  | d :: ds => match g d ρ with
    | none => .bad
    | some ρ1 => match tt ρ1 with
      | .ok true => (match di1 ρ1 with
        | .ok ds1 => (lcD g1 tt1 te (wipeR ρ1 vs1) ds1).bind fun ys => (lcD2 g tt di1 vs1 g1 tt1 te ρ ds).bind fun zs => .ok (ys ++ zs)
        | _ => .bad)
      | .ok false => lcD2 g tt di1 vs1 g1 tt1 te ρ ds
      | _ => .bad
def lenOk (ys : List D) : Res D := if ys.length ≤ 16777216 then .ok (.lst ys) else .bad
def dLc2 (di : Rho → Res (List D)) (vs : List Nat) (g : RhoG) (tt : Rho → Res Bool) (di1 : Rho → Res (List D)) (vs1 : List Nat) (g1 : RhoG) (tt1 : Rho → Res Bool) (te : Rho → Res D) : Rho → Res D := fun ρ =>
  (di ρ).bind fun ds => (lcD2 g tt di1 vs1 g1 tt1 te (wipeR ρ vs) ds).bind lenOk
theorem lcD_exc {ρ : Rho} {k : Str} {p : List (Str × D)} : ∀ {ds : List D}, lcD g tt te ρ ds ≠ .exc k p
  | [], h => by cases h
  | d :: ds, h => by
    unfold lcD at h
    split at h
    · cases h
    · split at h
      · split at h
        · cases e : lcD g tt te ρ ds with
          | ok ys => rw [e] at h; cases h
          | exc k' p' => exact lcD_exc e
          | bad => rw [e] at h; cases h
        · cases h
      · exact lcD_exc h
      · cases h
theorem lcD2_exc {ρ : Rho} {k : Str} {p : List (Str × D)} : ∀ {ds : List D}, lcD2 g tt di1 vs1 g1 tt1 te ρ ds ≠ .exc k p
  | [], h => by cases h
  | d :: ds, h => by
    unfold lcD2 at h
    split at h
    · cases h
    · split at h
      · split at h
        · rename_i ds1 _
          cases e1 : lcD g1 tt1 te (wipeR _ vs1) ds1 with
          | exc k' p' => exact lcD_exc e1
          | bad => rw [e1] at h; cases h
          | ok ys =>
            rw [e1] at h
            cases e : lcD2 g tt di1 vs1 g1 tt1 te ρ ds with
            | ok ys => rw [e] at h; cases h
            | exc k' p' => exact lcD2_exc e
            | bad => rw [e] at h; cases h
        · cases h
      · exact lcD2_exc h
      · cases h
/-- the inner loop; K: what goes on behind the items so far -/
theorem lc_inner {B : Addr → Prop} {H0 H1 H4 : Hp} {ρ ρ2 : Rho} {σ σ2 : L2.St} {L : Addr} {done : List D} {J1 : It} {ds1 : List D} {K : List D → Prop} {Nx : Hp → Prop} {G : Hp} (hlen : ds1.length ≤ 16777216)
    (nL : H1 L = none) (x0 : Ext C.Θ B H0 H1) (hO : ∀ i, i ∈ O → i ∉ vs1) (hS : ∀ i, i ∈ S1 → i ∈ vs1) (eO : ∀ i, i ∈ O → σ2[i]? = σ[i]?)
    (s2 : Stt C.Θ (more B L) H0 O ρ2 σ2 H4) (hI : LcI C.Θ B H0 H1 O ρ σ L H4 done) (hV : Vs C.Θ G (hid (more B L) σ O H4)) (src : SrcOk C.Θ J1 (hid (more B L) σ2 O H4) ds1)
    (hK : ∃ ys, lcD g1 tt1 te (wipeR ρ2 vs1) ds1 = .ok ys ∧ K (done ++ ys)) (hB : ∀ zs, K zs → zs.length ≤ 16777216)
    (hN : ∀ H done', LcI C.Θ B H0 H1 O ρ σ L H done' → Vs C.Θ G (hid (more B L) σ O H) → K done' → Nx H) :
    ∃ W1 : Nat → Nat → Hp → Prop, (∃ m, W1 0 m H4) ∧ ∀ j k H, W1 j k H →
      (J1.stop j H ∧ Nx H) ∨ (J1.go j H ∧ ∃ Nx1 : Hp → Prop, (∀ H', Nx1 H' → ∃ k', k' < k ∧ W1 (j + 1) k' H') ∧ ∀ x H', J1.yld j H x H' → rdG C.Θ O S1 g1 x (wipe σ2 vs1) H' fun σ3 H5 => wipe σ3 vs1 = wipe σ2 vs1 ∧ rdT C.Θ C.X.mg (fun _ _ _ _ => False) O tt1 σ3 H5 fun b H6 =>
        if b = true then rd C.Θ C.X.mg (fun _ _ _ _ => False) .e O te σ3 H6 fun y H7 => ∃ acc, H7 L = some (.lst acc) ∧ acc.length < sizeLine ∧ Nx1 (upd H7 L (.lst (acc ++ [y]))) else Nx1 H6) := by
  have eH2 : Hd (more B L) σ2 O = Hd (more B L) σ O := Hd_same eO
  have eh2 : ∀ K, hid (more B L) σ2 O K = hid (more B L) σ O K := fun K => by unfold hid; rw [eH2]
  have eHw : Hd (more B L) (wipe σ2 vs1) O = Hd (more B L) σ O := by rw [← eH2]; exact Hd_same fun i hi => wipe_no (hO i hi)
  have ehw : ∀ K, hid (more B L) (wipe σ2 vs1) O K = hid (more B L) σ O K := fun K => by unfold hid; rw [eHw]
  refine ⟨fun i m H => m = ds1.length - i ∧ ∃ done, Stt C.Θ (more B L) H0 O ρ2 σ2 H ∧ LcI C.Θ B H0 H1 O ρ σ L H done ∧ Vs C.Θ G (hid (more B L) σ O H) ∧ Vs C.Θ (hid (more B L) σ2 O H4) (hid (more B L) σ2 O H) ∧
    ∃ ys, lcD g1 tt1 te (wipeR ρ2 vs1) (ds1.drop i) = .ok ys ∧ K (done ++ ys), ⟨_, rfl, done, s2, hI, hV, .refl, hK⟩, ?_⟩
  rintro i m H ⟨rfl, dn, s3, hI3, hV3, hV4, ys, ey, hKy⟩
  obtain ⟨go, stop⟩ := src (more B L) H0 O i H ρ2 σ2 s3 hV4
  by_cases hil : i < ds1.length
  · have ed : ds1[i]? = some ds1[i] := List.getElem?_eq_getElem hil
    obtain ⟨g1', g2⟩ := go _ ed
    have edr : ds1.drop i = ds1[i] :: ds1.drop (i + 1) := List.drop_eq_getElem_cons hil
    rw [edr] at ey
    refine .inr ⟨g1', fun H' => ∃ done, Stt C.Θ (more B L) H0 O ρ2 σ2 H' ∧ LcI C.Θ B H0 H1 O ρ σ L H' done ∧ Vs C.Θ G (hid (more B L) σ O H') ∧ Vs C.Θ (hid (more B L) σ2 O H4) (hid (more B L) σ2 O H') ∧
      ∃ ys, lcD g1 tt1 te (wipeR ρ2 vs1) (ds1.drop (i + 1)) = .ok ys ∧ K (done ++ ys), fun H' hn => ⟨_, by omega, rfl, hn⟩, fun y H5 hy => ?_⟩
    obtain ⟨x5, hd⟩ := g2 y H5 hy
    have x5' := x5
    rw [eH2] at x5'
    have s5 := s3.up x5
    have hI5 := hI3.up x5'
    have sw5 : Stt C.Θ (more B L) H0 O (wipeR ρ2 vs1) (wipe σ2 vs1) H5 := s5.wiped hO
    cases eg : g1 ds1[i] (wipeR ρ2 vs1) with
    | none =>
      have e : lcD g1 tt1 te (wipeR ρ2 vs1) (ds1[i] :: ds1.drop (i + 1)) = .bad := by simp [lcD, eg]
      rw [e] at ey
      cases ey
    | some ρ3 =>
      rw [lcD, eg] at ey
      dsimp only at ey
      have hd' : Den C.Θ (hid (more B L) (wipe σ2 vs1) O H5) y ds1[i] := by rw [ehw, ← eh2]; exact hd
      refine ⟨more B L, H0, wipeR ρ2 vs1, ds1[i], sw5, hd', ρ3, eg, fun σ6 o6 s6 x6 => ⟨?_, more B L, H0, ρ3, s6, ?_⟩⟩
      · have o6' : Oth vs1 (wipe σ2 vs1) σ6 := ⟨o6.1, fun j hj => o6.2 j fun z => hj (hS j z)⟩
        rw [wipe_eq o6', wipe_wipe]
      have eH6 : Hd (more B L) σ6 O = Hd (more B L) σ O := by
        rw [← eHw]
        exact Hd_same fun i hi => o6.2 i fun z => hO i hi (hS i z)
      have eh6 : ∀ K, hid (more B L) σ6 O K = hid (more B L) σ O K := fun K => by unfold hid; rw [eH6]
      cases et : tt1 ρ3 with
      | bad => rw [et] at ey; cases ey
      | exc c p => rw [et] at ey; cases ey
      | ok k =>
        rw [et] at ey
        intro H7 x7 s7
        rw [eH6] at x7
        have hI7 := hI5.up x7
        have s7' : Stt C.Θ (more B L) H0 O ρ2 σ2 H7 := s5.up (by rw [eH2]; exact x7)
        have hV7 : Vs C.Θ G (hid (more B L) σ O H7) := (hV3.trans x5'.vis).trans x7.vis
        have hV8 : Vs C.Θ (hid (more B L) σ2 O H4) (hid (more B L) σ2 O H7) := by
          have := x7
          rw [← eH2] at this
          exact (hV4.trans x5.vis).trans this.vis
        cases k with
        | false => exact ⟨dn, s7', hI7, hV7, hV8, ys, ey, hKy⟩
        | true =>
          show rd C.Θ C.X.mg (fun _ _ _ _ => False) .e O te σ6 H7 _
          refine ⟨more B L, H0, ρ3, s7, ?_⟩
          cases ee : te ρ3 with
          | bad => rw [ee] at ey; cases ey
          | exc c p => rw [ee] at ey; cases ey
          | ok z =>
            rw [ee] at ey
            intro v H9 x9 s9 p9
            rw [eH6] at x9
            have hI9 := hI7.up x9
            have s9' : Stt C.Θ (more B L) H0 O ρ2 σ2 H9 := s7'.up (by rw [eH2]; exact x9)
            obtain ⟨acc, hL, hacc⟩ := hI9.ac
            have p9 : Den C.Θ (hid (more B L) σ6 O H9) v z := p9
            rw [eh6] at p9
            have ey : (lcD g1 tt1 te (wipeR ρ2 vs1) (ds1.drop (i + 1))).bind (fun ys => .ok (z :: ys)) = .ok ys := ey
            cases er : lcD g1 tt1 te (wipeR ρ2 vs1) (ds1.drop (i + 1)) with
            | bad => rw [er] at ey; cases ey
            | exc c p => exact absurd er lcD_exc
            | ok ws =>
              rw [er] at ey
              cases ey
              have hb := hB _ hKy
              refine ⟨acc, hL, ?_, dn ++ [z], ?_, hI9.push nL x0 p9 hL, ?_, ?_, ws, rfl, by rw [List.append_assoc]; exact hKy⟩
              · rw [hacc.len, sl24]
                simp only [List.length_append, List.length_cons] at hb
                omega
              · exact s9'.kept (.inr rfl) (x0.new L nL) hL
              · rw [hid_kept (.inr rfl)]; exact hV7.trans x9.vis
              · rw [hid_kept (.inr rfl)]
                have := x9
                rw [← eH2] at this
                exact hV8.trans this.vis
  · refine .inl ⟨stop (by omega), ?_⟩
    have edr : ds1.drop i = [] := List.drop_eq_nil_of_le (by omega)
    rw [edr] at ey
    cases ey
    rw [List.append_nil] at hKy
    exact hN H dn hI3 hV3 hKy
theorem lc2_rd {Q : VK} {σ : L2.St} {H : Hp} (hO : ∀ i, i ∈ O → i ∉ own.map (·.2)) (hS : ∀ i, i ∈ S → i ∈ own.map (·.2)) (hO1 : ∀ i, i ∈ O → i ∉ vs1) (hS1 : ∀ i, i ∈ S1 → i ∈ vs1)
    (h : rd C.Θ C.X.mg C.W .f O (dLc2 di (own.map (·.2)) g tt di1 vs1 g1 tt1 te) σ H Q) :
    tLc2 (rdI C.Θ C.X.mg C.W O di) (rdG C.Θ O S g) (rdT C.Θ C.X.mg (fun _ _ _ _ => False) O tt) (rdI C.Θ C.X.mg (fun _ _ _ _ => False) O di1) (rdG C.Θ O S1 g1) (rdT C.Θ C.X.mg (fun _ _ _ _ => False) O tt1) (rd C.Θ C.X.mg (fun _ _ _ _ => False) .e O te) (own.map (·.2)) vs1 σ H Q := by
  obtain ⟨B, H0, ρ, s, q⟩ := h
  refine rdI_bind s q fun ds J H1 x1 s1 src hlen q => ?_
  intro L nL
  generalize hvs : own.map (·.2) = vs at *
  -- what is wanted behind the items
  have hfin : ∃ ys, lcD2 g tt di1 vs1 g1 tt1 te (wipeR ρ vs) ds = .ok ys ∧ Aft C.Θ C.X.mg C.W .f B H0 O ρ σ H H1 (lenOk ys) Q := by
    cases e : lcD2 g tt di1 vs1 g1 tt1 te (wipeR ρ vs) ds with
    | bad => rw [e] at q; exact q.elim
    | exc c p => exact absurd e lcD2_exc
    | ok ys => rw [e] at q; exact ⟨ys, rfl, q⟩
  have hB : ∀ zs, Aft C.Θ C.X.mg C.W .f B H0 O ρ σ H H1 (lenOk zs) Q → zs.length ≤ 16777216 := fun zs hz => (Aft.ite hz).1
  refine ⟨fun i m H2 => m = ds.length - i ∧ ∃ done, LcI C.Θ B H0 H1 O ρ σ L H2 done ∧ Vs C.Θ (hid B σ O H1) (hid (more B L) σ O H2) ∧
    ∃ ys, lcD2 g tt di1 vs1 g1 tt1 te (wipeR ρ vs) (ds.drop i) = .ok ys ∧ Aft C.Θ C.X.mg C.W .f B H0 O ρ σ H H1 (lenOk (done ++ ys)) Q,
    ⟨_, rfl, [], LcI.start s1 nL, Vs.same (hid_new nL), hfin⟩, ?_⟩
  rintro i m H2 ⟨rfl, done, hI, hV, ys, ey, q2⟩
  have eH : Hd (more B L) (wipe σ vs) O = Hd (more B L) σ O := Hd_same fun i hi => wipe_no (hO i hi)
  have eh : ∀ K, hid (more B L) (wipe σ vs) O K = hid (more B L) σ O K := fun K => by unfold hid; rw [eH]
  obtain ⟨go, stop⟩ := src (more B L) H0 O i H2 ρ σ hI.st hV
  by_cases hil : i < ds.length
  · have ed : ds[i]? = some ds[i] := List.getElem?_eq_getElem hil
    obtain ⟨g1', g2⟩ := go _ ed
    have edr : ds.drop i = ds[i] :: ds.drop (i + 1) := List.drop_eq_getElem_cons hil
    rw [edr] at ey
    refine .inr ⟨g1', fun H' => ∃ done, LcI C.Θ B H0 H1 O ρ σ L H' done ∧ Vs C.Θ (hid B σ O H1) (hid (more B L) σ O H') ∧
      ∃ ys, lcD2 g tt di1 vs1 g1 tt1 te (wipeR ρ vs) (ds.drop (i + 1)) = .ok ys ∧ Aft C.Θ C.X.mg C.W .f B H0 O ρ σ H H1 (lenOk (done ++ ys)) Q, fun H' hN => ⟨_, by omega, rfl, hN⟩, fun y H3 hy => ?_⟩
    obtain ⟨x3, hd⟩ := g2 y H3 hy
    have hI3 := hI.up x3
    have sw3 : Stt C.Θ (more B L) H0 O (wipeR ρ vs) (wipe σ vs) H3 := hI3.st.wiped hO
    cases eg : g ds[i] (wipeR ρ vs) with
    | none =>
      have e : lcD2 g tt di1 vs1 g1 tt1 te (wipeR ρ vs) (ds[i] :: ds.drop (i + 1)) = .bad := by simp [lcD2, eg]
      rw [e] at ey
      cases ey
    | some ρ3 =>
      have e : lcD2 g tt di1 vs1 g1 tt1 te (wipeR ρ vs) (ds[i] :: ds.drop (i + 1)) = match tt ρ3 with
        | .ok true => (match di1 ρ3 with
          | .ok ds1 => (lcD g1 tt1 te (wipeR ρ3 vs1) ds1).bind fun ys => (lcD2 g tt di1 vs1 g1 tt1 te (wipeR ρ vs) (ds.drop (i + 1))).bind fun zs => .ok (ys ++ zs)
          | _ => .bad)
        | .ok false => lcD2 g tt di1 vs1 g1 tt1 te (wipeR ρ vs) (ds.drop (i + 1))
        | _ => .bad := by simp [lcD2, eg]
      rw [e] at ey
      refine ⟨more B L, H0, wipeR ρ vs, ds[i], sw3, by rw [eh]; exact hd, ρ3, eg, fun σ4 o4 s4 x4 => ⟨?_, more B L, H0, ρ3, s4, ?_⟩⟩
      · have o4' : Oth vs (wipe σ vs) σ4 := ⟨o4.1, fun j hj => o4.2 j fun z => hj (hS j z)⟩
        rw [wipe_eq o4', wipe_wipe]
      have eO4 : ∀ i, i ∈ O → σ4[i]? = σ[i]? := fun i hi => (o4.2 i fun z => hO i hi (hS i z)).trans (wipe_no (hO i hi))
      have eH4 : Hd (more B L) σ4 O = Hd (more B L) σ O := Hd_same eO4
      have eh4 : ∀ K, hid (more B L) σ4 O K = hid (more B L) σ O K := fun K => by unfold hid; rw [eH4]
      cases et : tt ρ3 with
      | bad => rw [et] at ey; cases ey
      | exc c p => rw [et] at ey; cases ey
      | ok k =>
        rw [et] at ey
        intro H5 x5 s5
        rw [eH4] at x5
        have hI5 := hI3.up x5
        have hV5 : Vs C.Θ (hid B σ O H1) (hid (more B L) σ O H5) := (hV.trans x3.vis).trans x5.vis
        cases k with
        | false => exact ⟨done, hI5, hV5, ys, ey, q2⟩
        | true =>
          show rdI C.Θ C.X.mg (fun _ _ _ _ => False) O di1 σ4 H5 _
          refine ⟨more B L, H0, ρ3, s5, ?_⟩
          cases ee : di1 ρ3 with
          | bad => rw [ee] at ey; cases ey
          | exc c p => rw [ee] at ey; cases ey
          | ok ds1 =>
            rw [ee] at ey
            have ey : ((lcD g1 tt1 te (wipeR ρ3 vs1) ds1).bind fun ys => (lcD2 g tt di1 vs1 g1 tt1 te (wipeR ρ vs) (ds.drop (i + 1))).bind fun zs => .ok (ys ++ zs)) = .ok ys := ey
            cases e1 : lcD g1 tt1 te (wipeR ρ3 vs1) ds1 with
            | bad => rw [e1] at ey; cases ey
            | exc c p => exact absurd e1 lcD_exc
            | ok us =>
              rw [e1] at ey
              cases e2 : lcD2 g tt di1 vs1 g1 tt1 te (wipeR ρ vs) (ds.drop (i + 1)) with
              | bad => rw [Res.bind_ok, e2] at ey; cases ey
              | exc c p => exact absurd e2 lcD2_exc
              | ok zs =>
                rw [Res.bind_ok, e2] at ey
                cases ey
                intro J1 H6 x6 s6 src1 hl1
                rw [eH4] at x6
                refine lc_inner (ρ2 := ρ3) (σ2 := σ4) (G := hid B σ O H1) (K := fun xs => Aft C.Θ C.X.mg C.W .f B H0 O ρ σ H H1 (lenOk (xs ++ zs)) Q) hl1 nL s1.ext hO1 hS1 eO4 s6 (hI5.up x6) (hV5.trans x6.vis) src1 ⟨us, e1, by rw [List.append_assoc]; exact q2⟩
                  (fun xs hx => by have := hB _ hx; rw [List.length_append] at this; omega) fun H7 d7 h7 v7 k7 => ⟨d7, h7, v7, zs, rfl, k7⟩
  · refine .inl ⟨stop (by omega), ?_⟩
    have edr : ds.drop i = [] := List.drop_eq_nil_of_le (by omega)
    rw [edr] at ey
    cases ey
    rw [List.append_nil] at q2
    obtain ⟨s2, p2⟩ := hI.fin s1 nL (fun a n => x1.new a n)
    exact (Aft.ite q2).2 _ H2 hI.ex s2 p2
theorem vf_lc2 (hi : VI C O tg iter di) (ok : BlkOk C.X.N C.X.env.scope scope own) (hg : ∀ s H Cn cl fp, VG (C.blk s H scope Cn cl fp) O S tg g) (ht : ∀ s H Cn cl fp, VTs (C.blk s H scope Cn cl fp) O ifs tt)
    (hi1 : ∀ s H Cn cl fp, VI (C.blk s H scope Cn cl fp) O tg1 iter1 di1) (hg1 : ∀ s H Cn cl fp, VG (C.blk s H scope Cn cl fp) O S1 tg1 g1) (ht1 : ∀ s H Cn cl fp, VTs (C.blk s H scope Cn cl fp) O ifs1 tt1) (he : ∀ s H Cn cl fp, VM (C.blk s H scope Cn cl fp) .e O elt te)
    (hO : ∀ i, i ∈ O → i ∉ own.map (·.2) := by decide) (hS : ∀ i, i ∈ S → i ∈ own.map (·.2) := by decide) (hO1 : ∀ i, i ∈ O → i ∉ vs1 := by decide) (hS1 : ∀ i, i ∈ S1 → i ∈ vs1 := by decide) (hv : ∀ i ∈ vs1, i ∈ own.map (·.2) := by decide)
    (hs : ∀ x, foldedSetIterable iter C.X.env x = pure x := by intro _; rfl) (hs1 : ∀ env x, foldedSetIterable iter1 env x = pure x := by intro _ _; rfl) :
    VM C .f O (.ListComp elt [⟨tg, iter, ifs, 0⟩, ⟨tg1, iter1, ifs1, 0⟩] scope pos) (dLc2 di (own.map (·.2)) g tt di1 vs1 g1 tt1 te) :=
  PE.wk (pe_lc2 (g := rdG C.Θ O S g) (tt := rdT C.Θ C.X.mg (fun _ _ _ _ => False) O tt) (wi1 := rdI C.Θ C.X.mg (fun _ _ _ _ => False) O di1) (g1 := rdG C.Θ O S1 g1) (tt1 := rdT C.Θ C.X.mg (fun _ _ _ _ => False) O tt1) (te := rd C.Θ C.X.mg (fun _ _ _ _ => False) .e O te)
    C.calm C.nd hi ok hv hg ht hi1 hg1 ht1 he hs hs1) fun σ H Q h => lc2_rd hO hS hO1 hS1 h
theorem vs_setLc2 {y : Str} {py spos : Pos} (hi : VI C O tg iter di) (ok : BlkOk C.X.N C.X.env.scope scope own) (hg : ∀ s H Cn cl fp, VG (C.blk s H scope Cn cl fp) O S tg g) (ht : ∀ s H Cn cl fp, VTs (C.blk s H scope Cn cl fp) O ifs tt)
    (hi1 : ∀ s H Cn cl fp, VI (C.blk s H scope Cn cl fp) O tg1 iter1 di1) (hg1 : ∀ s H Cn cl fp, VG (C.blk s H scope Cn cl fp) O S1 tg1 g1) (ht1 : ∀ s H Cn cl fp, VTs (C.blk s H scope Cn cl fp) O ifs1 tt1) (he : ∀ s H Cn cl fp, VM (C.blk s H scope Cn cl fp) .e O elt te)
    (hsw : swapsWith (.ListComp elt [⟨tg, iter, ifs, 0⟩, ⟨tg1, iter1, ifs1, 0⟩] scope pos) (some (.Name y py)) spos.line C.X.env = pure true) (hy : C.X.N[i]? = some y := by rfl) (hyl : C.X.env.scope.names.lookup y = some .local := by rfl)
    (hO : ∀ i, i ∈ O → i ∉ own.map (·.2) := by decide) (hS : ∀ i, i ∈ S → i ∈ own.map (·.2) := by decide) (hO1 : ∀ i, i ∈ O → i ∉ vs1 := by decide) (hS1 : ∀ i, i ∈ S1 → i ∈ vs1 := by decide) (hv : ∀ i ∈ vs1, i ∈ own.map (·.2) := by decide)
    (hs : ∀ x, foldedSetIterable iter C.X.env x = pure x := by intro _; rfl) (hs1 : ∀ env x, foldedSetIterable iter1 env x = pure x := by intro _ _; rfl) :
    VS C Oc O (i :: ofN O i) (.Assign [.Name y py] (.ListComp elt [⟨tg, iter, ifs, 0⟩, ⟨tg1, iter1, ifs1, 0⟩] scope pos) spos) (dSet i (dLc2 di (own.map (·.2)) g tt di1 vs1 g1 tt1 te)) :=
  PS.wk (ps_setLc2 (g := rdG C.Θ O S g) (tt := rdT C.Θ C.X.mg (fun _ _ _ _ => False) O tt) (wi1 := rdI C.Θ C.X.mg (fun _ _ _ _ => False) O di1) (g1 := rdG C.Θ O S1 g1) (tt1 := rdT C.Θ C.X.mg (fun _ _ _ _ => False) O tt1) (te := rd C.Θ C.X.mg (fun _ _ _ _ => False) .e O te)
    C.calm C.nd hy hyl hsw hi ok hv hg ht hi1 hg1 ht1 he hs hs1) fun Dd σ H ⟨B, H0, ρ, s, q⟩ => by
    refine lc2_rd hO hS hO1 hS1 (Q := fun x H1 => L2.gName i x σ H1 Dd.nx) ?_
    refine rdS_on (C := C) (O' := i :: ofN O i) (Oc := Oc) s q fun d v H' x s' p _ q => ?_
    obtain ⟨hz, q⟩ := setR_ok (H := H) (σ := σ) q
    obtain ⟨a, rfl, n, nh, ow⟩ := p
    exact q _ _ (s.setF (s.ilt hz) x n nh ow) (vis_setF (s.ilt hz) x n ow)
end
end Dn

namespace Dn
open PySem PySem.Spec L2
open PyProof.Rows hiding St

theorem Ns_inj {h : Heap} {a : Addr} {m m' : Str → Option Value} (x : h.Ns a m) (y : h.Ns a m') : m = m' := by
  obtain ⟨o, es, ep, e1, e2, _, e3⟩ := x
  obtain ⟨o', es', ep', f1, f2, _, f3⟩ := y
  rw [e1] at f1
  cases f1
  rw [e2] at f2
  cases f2
  funext n
  rw [← e3, f3]
theorem ObjOk_there {P : Program} {w : World} {H : Hp} {h : Heap} {a : Addr} {o : HO} (x : ObjOk P w H h a o) : ∃ u, h.get? a = some u := by
  cases o with
  | lst xs => obtain ⟨_, _, _, _, e⟩ := x; exact ⟨_, e⟩
  | tup xs => obtain ⟨_, _, _, _, e, _⟩ := x; exact ⟨_, e⟩
  | dK kvs => obtain ⟨_, _, _, _, o, _, _, e, _⟩ := x; exact ⟨_, e⟩
  | dT kvs => obtain ⟨_, _, _, _, o, _, _, e, _⟩ := x; exact ⟨_, e⟩
  | set S n => obtain ⟨o, _, _, _, e, _⟩ := x; exact ⟨_, e⟩
  | ins C dx fs => obtain ⟨_, _, _, e, _⟩ := x; exact ⟨_, e⟩
  | own y => obtain ⟨_, e⟩ := x; exact ⟨_, e⟩
  | xd fs => obtain ⟨_, ⟨_, _, _, e, _⟩, _⟩ := x; exact ⟨_, e⟩
  | rng lo hi => obtain ⟨_, _, _, e⟩ := x; exact ⟨_, e⟩
  | frz ob u => obtain ⟨e, _⟩ := x; exact ⟨_, e⟩
  | tbl ps => exact ⟨_, (show h.get? a = some _ from x)⟩
  | met f y => exact ⟨_, (show h.get? a = some _ from x)⟩
  | ext φ => obtain ⟨_, ⟨_, e⟩, _⟩ := x; exact ⟨_, e⟩
section
variable {X : Cx} {pins : List (Addr × Obj)} {σ : L2.St} {H : Hp} {s : Shared}
/-- a list unpacked to targets of which one is starred -/
theorem star_items {a : Addr} {xs : List V} {n i : Nat} {Q : List Value → Shared → Prop} (hc : X.calm = true) (I : Inv X pins σ H s) (hl : SqL X.K H a xs) (hi : i < n) (hn : n ≤ xs.length + 1) (hz : xs.length ≤ 16384)
    (h : ∀ D us s', H D = none → Inv X pins σ (upd H D (.lst ((xs.drop i).take (xs.length + 1 - n)))) s' → Vals (xs.take i ++ [.ref D] ++ (xs.drop i).drop (xs.length + 1 - n)) us → Q us s') :
    wpAny (model X.prog X.w) X.A (unpackItems (.ref a) n (some i)) Q X.xe s := by
  obtain ⟨its, rv, ⟨o, k, e1, e2, _, e4⟩, _⟩ := I.list hl
  have el := rv.length
  obtain ⟨m, F⟩ := I.fr
  refine PySem.W.kun_starL F news_all ⟨o, e1, e2, k, e4⟩ (I.ok.hd hc) hi (by simp; omega) (by simp; omega) rfl rfl rfl fun D h' tk F' N' ltD => ?_
  have hsz : its.toArray.size = xs.length := by simp [el]
  rw [hsz] at N' ⊢
  have k' : ∀ b u, b ≠ X.env.locals → s.heap.get? b = some u → h'.get? b = some u := fun b u hb e => by
    cases q : X.base.get? b with
    | some w =>
      have := I.bk b w q
      rw [e] at this
      cases this
      exact F'.keep b _ q
    | none => exact (N' (b, u) (List.mem_cons_of_mem _ (mem_allNews hb q e))).1
  obtain ⟨eD, nL, nb⟩ := N' _ (List.mem_cons_self ..)
  have sD : s.heap.get? D = none := by
    cases q : s.heap.get? D with
    | none => rfl
    | some u =>
      have := ltD (D, u) (mem_allNews nL nb q)
      exact absurd this (Nat.lt_irrefl _)
  have hD : H D = none := by
    cases q : H D with
    | none => rfl
    | some u =>
      obtain ⟨o', z⟩ := ObjOk_there (I.hok D u q)
      rw [sD] at z
      cases z
  have hH : ∀ b u, H b = some u → b ≠ X.env.locals := fun b u e z => by rw [z, I.free] at e; cases e
  have nD : ∀ b u, H b = some u → b ≠ D := fun b u e z => by rw [z, hD] at e; cases e
  have rm : Vals ((xs.drop i).take (xs.length + 1 - n)) ((its.drop i).take (xs.length + 1 - n)) := (rv.drop i).take _
  refine h D _ _ hD ?_ (Vals.append (Vals.append (rv.take i) (Paired.cons (show RelV (V.ref D) (Value.ref D) from rfl) Paired.nil)) ((rv.drop i).drop _))
  refine I.step (g' := s.gens) (d' := s.drawn) (ch := []) (fun _ z => nomatch z) (fun b o hL _ _ e _ => k' b o hL e) (fun b o hL _ _ e _ => ⟨o.slots, k' b o hL e⟩) (fun b o _ e n => by rw [upd_ne (fun z => by rw [z, sD] at e; cases e)]; exact n)
    (fun b o _ e => ?_) (fun b ys e => by rw [upd_ne (nD b _ e)]; exact e) (fun b o u e => by rw [upd_ne (nD b _ e)]; exact e) (fun b ps e => ⟨#[], by rw [upd_ne (nD b _ e), e]; simp⟩) (fun m' hm => by rw [Ns_inj hm F.ns]; exact F'.ns) (fun b u e => ?_) I.bare
  · by_cases hb : b = X.env.locals
    · obtain ⟨o', _, _, q, _⟩ := F'.ns
      exact ⟨o', by rw [hb]; exact q⟩
    · exact ⟨o, k' b o hb e⟩
  · by_cases hb : b = D
    · subst hb
      rw [upd_same] at e
      cases e
      refine ⟨?_, _, 0, rm, ?_⟩
      · rw [List.length_take]
        have : sizeLine = 16777216 := rfl
        omega
      · exact eD
    · rw [upd_ne hb] at e
      refine (I.hok b u e).stay (fun c v hc q => k' c v ?_ q) (fun c q => by rw [upd_ne (nD c _ q)]; exact q) fun c ys q => by rw [upd_ne (nD c _ q)]; exact q
      rcases hc with z | z
      · rw [z]; exact hH b u e
      · exact hH c _ z
def gStarL (K : PySem.W.Frag) (n i : Nat) (t : TGs) : TG := fun v σ H Q => ∃ a xs, v = .ref a ∧ SqL K H a xs ∧ i < n ∧ n ≤ xs.length + 1 ∧ xs.length ≤ 16384 ∧ ∀ D, H D = none → t (xs.take i ++ [.ref D] ++ (xs.drop i).drop (xs.length + 1 - n)) σ (upd H D (.lst ((xs.drop i).take (xs.length + 1 - n)))) Q
theorem pg_starL {es : List Expr} {k n i : Nat} {t : TGs} {pos : Pos} (hc : X.calm = true) (h : PGs X es t) (hn : (assignEach es X.env).length = n := by rfl) (hst : (assignEach es X.env).findIdx? (·.1) = some i := by rfl) : PG X (.Tuple es k pos) (gStarL X.K n i t) := by
  refine ⟨fun pins s σ H v u Q I r hw => ?_⟩
  obtain ⟨a, xs, e1, hq, hi, hl, hz, hw⟩ := hw
  subst e1
  cases r
  rw [assign_Tuple]
  refine wpAny_bind (wpAny_standAt ?_)
  unfold unpack
  rw [hn, hst]
  exact wpAny_bind (wpAny_holding (star_items hc I hq hi hl hz fun D us s' nD I' rv => h.run pins s' σ _ _ us Q I' rv (hw D nD)))
end

section
variable {C : Ctx} {O Oc : List Nat} {e : Expr} {ts : List Expr} {de : Rho → Res D} {gs : RhoGs} {g : RhoG} {tg : Expr} {pos p : Pos} {S1 S2 S : List Nat}
theorem vgs_star (h1 : VG C O S1 tg g) (h2 : VGs C O S2 ts gs) (hs : (assignEach (.Starred tg p :: ts) C.X.env).map (·.2) = assign tg C.X.env :: (assignEach ts C.X.env).map (·.2) := by rfl)
    (hs2 : (assignEach (tg :: ts) C.X.env).map (·.2) = assign tg C.X.env :: (assignEach ts C.X.env).map (·.2) := by rfl) : VGs C O (S1 ++ S2) (.Starred tg p :: ts) (gCons g gs) := by
  have z : VGs C O (S1 ++ S2) (tg :: ts) (gCons g gs) := vgs_cons h1 h2 hs2
  exact ⟨fun pins s σ H vs us Q I r h => by rw [hs, ← hs2]; exact z.run pins s σ H vs us Q I r h⟩
def starD (n i : Nat) (ds : List D) : List D := ds.take i ++ [.lst ((ds.drop i).take (ds.length + 1 - n))] ++ (ds.drop i).drop (ds.length + 1 - n)
def dAsgS (n i : Nat) (de : Rho → Res D) (gs : RhoGs) : Rho → Out := onD de fun d ρ => match d with
  | .lst ds => if ds.length ≤ 16384 ∧ n ≤ ds.length + 1 ∧ i < n then (match gs (starD n i ds) ρ with
    | some ρ' => .nx ρ'
    | none => .bad) else .bad
  | _ => .bad
theorem vs_asgS {n i k : Nat} (he : VM C .e O e de) (hg : VGs C O S ts gs) (hn : (assignEach ts C.X.env).length = n := by rfl) (hst : (assignEach ts C.X.env).findIdx? (·.1) = some i := by rfl)
    (hs : swapsWithSole [.Tuple ts k p] e pos.line C.X.env = pure false := by rfl) (hw : swappedStores [.Tuple ts k p] e C.X.env = pure none := by rfl)
    (h1 : (assignEach [.Tuple ts k p] C.X.env).map (·.2) = [assign (.Tuple ts k p) C.X.env] := by rfl) : VS C Oc O O (.Assign [.Tuple ts k p] e pos) (dAsgS n i de gs) :=
  PS.wk (ps_asg he (pg_starL C.calm hg hn hst) hs hw h1) fun Dd σ H ⟨B, H0, ρ, s, q⟩ => rdS_on s q fun d v H' x s' pp q _ => by
    cases d with
    | lst ds =>
      cases pp with
      | @lst a vs _ ea hvs =>
        have hl := hvs.len
        have q : AftS C.Θ C.X.mg C.W C.fr B H0 O Oc (hid B σ O H') (if ds.length ≤ 16384 ∧ n ≤ ds.length + 1 ∧ i < n then (match gs (starD n i ds) ρ with | some ρ' => .nx ρ' | none => .bad) else .bad) Dd := q
        split at q
        · rename_i z
          cases eg : gs (starD n i ds) ρ with
          | none => rw [eg] at q; exact q.elim
          | some ρ' =>
            rw [eg] at q
            refine ⟨a, vs, rfl, SqL.at (hid_sub _ _ ea), z.2.2, by omega, by omega, fun A nA => ?_⟩
            have x2 : Ext C.Θ (Hd B σ O) H' (upd H' A (.lst ((vs.drop i).take (vs.length + 1 - n)))) := .same (same_new nA)
            have s2 := s'.up x2
            have hvs2 : Dens C.Θ (hid B σ O (upd H' A (.lst ((vs.drop i).take (vs.length + 1 - n))))) vs ds := Dens.ext x2.vis hvs
            refine ⟨B, H0, ρ, starD n i ds, s2, ?_, ρ', eg, fun σ' o s3 x3 => q σ' _ s3 (x2.vis.trans x3)⟩
            unfold starD
            rw [← hl]
            refine ((hvs2.take i).append (.cons (.lst (hid_of upd_same ?_) ((hvs2.drop i).take _)) .nil)).append ((hvs2.drop i).drop _)
            exact s'.fresh nA
        · exact q.elim
    | _ => exact q.elim
end
end Dn

namespace Dn
open PySem PySem.Spec L2
open PyProof.Rows hiding St

/-! ### a book is made -/
def trioD (t : Nat × Nat × Nat) : D := .tup [.int t.1, .int t.2.1, .int t.2.2]
def backD (b : Bk) : D := .tup (b.back.map fun (n : Nat) => D.int n)
def barD (b : Bk) : D := .tup (b.bar.map trioD)
section
variable {Θ : Th} {B B' : Addr → Prop} {H0 H H' : Hp} {O : List Nat} {ρ ρ' : Rho} {σ σ' : L2.St} {L : Addr}
theorem Stt.put {o : HO} (s : Stt Θ B' H0 O ρ σ H) (h : B' L) (h0 : H0 L = none) : Stt Θ B' H0 O ρ σ (upd H L o) := by
  have e : hid B' σ O (upd H L o) = hid B' σ O H := hid_kept h
  have e2 : hide B' (upd H L o) = hide B' H := by
    funext b
    unfold hide
    by_cases z : B' b
    · rw [if_pos z, if_pos z]
    · rw [if_neg z, if_neg z, upd_ne (show b ≠ L from fun y => z (by rw [y]; exact h))]
  have x : Ext Θ B' H0 (upd H L o) := fun b u q => by
    have nb : b ≠ L := fun z => by rw [z, h0] at q; cases q
    rcases s.ext b u q with y | ⟨np, dx, fs, fs', bk, e1, y, o1, o2, hb, hk⟩
    · exact .inl (by rw [upd_ne nb]; exact y)
    · exact .inr ⟨np, dx, fs, fs', bk, e1, by rw [upd_ne nb]; exact y, o1, o2, by rw [e2]; exact hb, hk⟩
  refine ⟨s.len, x, fun b hb => ?_, fun i d hi q => by rw [e]; exact s.val i d hi q, fun i hi => ?_, s.inj⟩
  · by_cases z : b = L
    · rw [z, upd_same]; exact fun y => nomatch y
    · rw [upd_ne z]; exact s.bex b hb
  · obtain ⟨a, d, e1, e2, q, nb, n0⟩ := s.own i hi
    have na : a ≠ L := fun z => nb (z ▸ h)
    exact ⟨a, d, e1, e2, by rw [e]; exact q.up (fun _ _ z => z) (fun u _ z => by rw [upd_ne na]; exact z), nb, n0⟩
/-- the entry heap may be an older one -/
theorem Stt.older {Hp0 : Hp} (s : Stt Θ B H0 [] ρ σ H) (x : Ext Θ B Hp0 H0) : Stt Θ B Hp0 [] ρ σ H :=
  ⟨s.len, x.trans s.ext, s.bex, s.val, fun i hi => (by cases hi), fun i j a hi => by cases hi⟩
end
theorem putF_nil {f : Str} {v : V} : putF f v [] = [(f, v)] := rfl
theorem putF_cons {f g : Str} {v x : V} {r : List (Str × V)} (h : ¬ g = f) : putF f v ((g, x) :: r) = (g, x) :: putF f v r := by
  show (if g = f then _ else _) = _
  rw [if_neg h]
/-- a suite behind which a thing is locked -/
def tLocked (t : TS) : TS := fun D σ H => t { D with nx := fun σ' H' => ∃ d u, H' d = some u ∧ Mut (some u) ∧ ∀ od, D.nx σ' (upd H' d (.frz od u)) } σ H
theorem pss_locked {X : Cx} {sts : List Stmt} {t : TS} (h : PSs X sts t) : PSs X sts (tLocked t) := by
  refine ⟨fun pins s σ H D I q => thn (h.run pins s σ H _ I q) fun f s1 q1 => ?_⟩
  cases f with
  | next =>
    obtain ⟨σ', H', I', d, u, e, mu, k⟩ := q1
    obtain ⟨od, I2⟩ := I'.lock e mu
    exact ⟨σ', _, I2, k od⟩
  | brk => exact q1
  | cont => exact q1
  | ret u => exact q1
def kvsOf (b : Bk) (ts : List (Nat × Nat × Nat)) : List (List Key × V) := (ts.filter fun t => !b.bar.contains (formN b.back t)).map fun t => (trioK t, V.bl true)
theorem allTrios_nodup (k : Nat) : (allTrios k).Nodup := by
  have r : (List.range k).Nodup := List.nodup_range
  have im : ∀ p q : Nat, ((List.range k).map fun r => (p, q, r)).Nodup := fun p q => List.Pairwise.map _ (fun a b h z => h (by cases z; rfl)) r
  refine List.pairwise_flatMap.mpr ⟨fun p _ => List.pairwise_flatMap.mpr ⟨fun q _ => im p q, ?_⟩, ?_⟩
  · refine List.Pairwise.imp (fun {a b} hab => ?_) r
    intro x h1 y h2 e
    subst e
    obtain ⟨_, _, rfl⟩ := List.mem_map.mp h1
    obtain ⟨_, _, e⟩ := List.mem_map.mp h2
    cases e
    exact hab rfl
  · refine List.Pairwise.imp (fun {a b} hab => ?_) r
    intro x h1 y h2 e
    subst e
    obtain ⟨_, _, h1⟩ := List.mem_flatMap.mp h1
    obtain ⟨_, _, rfl⟩ := List.mem_map.mp h1
    obtain ⟨_, _, h2⟩ := List.mem_flatMap.mp h2
    obtain ⟨_, _, e⟩ := List.mem_map.mp h2
    cases e
    exact hab rfl
theorem trioK_inj {s t : Nat × Nat × Nat} (h : trioK s = trioK t) : s = t := by
  obtain ⟨a, b, c⟩ := s
  obtain ⟨a', b', c'⟩ := t
  simp [trioK] at h
  obtain ⟨h1, h2, h3⟩ := h
  have e1 : a = a' := by omega
  have e2 : b = b' := by omega
  have e3 : c = c' := by omega
  rw [e1, e2, e3]
theorem put_new {b : Bk} {ts us : List (Nat × Nat × Nat)} {t : Nat × Nat × Nat} {k : Nat} (h : allTrios k = ts ++ t :: us) : putK (kvsOf b ts) (trioK t) (V.bl true) = kvsOf b ts ++ [(trioK t, V.bl true)] := by
  unfold putK
  rw [if_neg]
  intro z
  obtain ⟨kv, h1, h2⟩ := List.any_eq_true.mp z
  obtain ⟨t', h3, rfl⟩ := List.mem_map.mp h1
  have e := trioK_inj (of_decide_eq_true h2)
  subst e
  have nd := allTrios_nodup k
  rw [h] at nd
  exact (List.nodup_append.mp nd).2.2 _ (List.mem_filter.mp h3).1 _ (List.mem_cons_self ..) rfl
def R3 (a : Addr) (x y : D) (q : Option D) : Rho := [some (.obj a), some x, some y, q]
section
variable {P : Program} {w : World} {K : PySem.W.Frag} {mg : Str → Option Value} {base : Heap} {Θ : Th}
def spB (Θ : Th) (mg : Str → Option Value) (f : List D → Res D) : Sp := fun vs H Q E => ∃ (B : Addr → Prop) (p dx : Addr) (Hp0 : Hp) (v1 v2 : V) (d1 d2 : D), vs = [.ref p, v1, v2] ∧ H = upd (upd Hp0 dx (.own p)) p (.ins Θ.bk dx []) ∧ Hp0 p = none ∧ Hp0 dx = none ∧ dx ≠ p ∧
  (∀ b, B b → Hp0 b ≠ none) ∧ Den Θ (hide B Hp0) v1 d1 ∧ Den Θ (hide B Hp0) v2 d2 ∧ match f [d1, d2] with
  | .ok d => ∀ H', Ext Θ B Hp0 H' → Den Θ (hide B H') (.ref p) d → Q .non H'
  | .exc c q => ∀ cls dd H', Ext Θ B Hp0 H' → ExcOk Θ mg H' c q cls dd → E cls dd H'
  | .bad => False
structure BOk (P : Program) (w : World) (K : PySem.W.Frag) (mg : Str → Option Value) (base : Heap) (Θ : Th) (k : Nat) (f : List D → Res D) : Prop where
  ex : ∃ (g : Addr) (fd : FuncData), Mk K Θ.bk g ∧ mg "Book" = some (.ref Θ.bk) ∧ Binds K fd ["self", "back", "barred"] [] ∧ FnOk P w K mg base (L2.CX P w) k g fd ["self", "back", "barred"] (spB Θ mg f)

structure BFacts (K : PySem.W.Frag) (bk : Addr) : Prop where
  cl : Cls K bk
  n1 : NoAttr K bk "back"
  n2 : NoAttr K bk "barred"
  n3 : NoAttr K bk "kinds"
  n4 : NoAttr K bk "lets"
  n5 : NoAttr K bk "known_knit"
abbrev NB : List Str := ["self", "back", "barred", "trio"]
/-- what the parts of __init__ must say for f to be right -/
def BSpec (d1 d2 : Rho → Out) (dk dr : Rho → Res D) (dt : Rho → Res Bool) (f : List D → Res D) : Prop := ∀ (x y : D), match f [x, y] with
  | .bad => True
  | .exc c p => ∀ a, d1 (R3 a x y none) = .exc c p (R3 a x y none) ∨ (d1 (R3 a x y none) = .nx (R3 a x y none) ∧ d2 (R3 a x y none) = .exc c p (R3 a x y none))
  | .ok d => ∃ b, d = .book b ∧ x = backD b ∧ y = barD b ∧ (allTrios b.back.length).length ≤ 1000 ∧ ∀ a, d1 (R3 a x y none) = .nx (R3 a x y none) ∧ d2 (R3 a x y none) = .nx (R3 a x y none) ∧ dk (R3 a x y none) = .ok (.int b.back.length) ∧
      dr (R3 a x y none) = .ok (.lst ((allTrios b.back.length).map trioD)) ∧ ∀ t, t ∈ allTrios b.back.length → dt (R3 a x y (some (trioD t))) = .ok (!b.bar.contains (formN b.back t))
def fldsB (v1 v2 : V) (n : Int) (d : Addr) : List (Str × V) := [(("back" : Str), v1), (("barred" : Str), v2), (("kinds" : Str), .int n), (("lets" : Str), .ref d), (("known_knit" : Str), .non)]
theorem fldsB_1 {v1 : V} : putF "back" v1 [] = [(("back" : Str), v1)] := rfl
theorem fldsB_2 {v1 v2 : V} : putF "barred" v2 [(("back" : Str), v1)] = [(("back" : Str), v1), (("barred" : Str), v2)] := by
  rw [putF_cons (by decide +kernel), putF_nil]
theorem fldsB_3 {v1 v2 v3 : V} : putF "kinds" v3 [(("back" : Str), v1), (("barred" : Str), v2)] = [(("back" : Str), v1), (("barred" : Str), v2), (("kinds" : Str), v3)] := by
  rw [putF_cons (by decide +kernel), putF_cons (by decide +kernel), putF_nil]
theorem fldsB_4 {v1 v2 v3 v4 : V} : putF "lets" v4 [(("back" : Str), v1), (("barred" : Str), v2), (("kinds" : Str), v3)] = [(("back" : Str), v1), (("barred" : Str), v2), (("kinds" : Str), v3), (("lets" : Str), v4)] := by
  rw [putF_cons (by decide +kernel), putF_cons (by decide +kernel), putF_cons (by decide +kernel), putF_nil]
theorem fldsB_5 {v1 v2 v3 v4 v5 : V} : putF "known_knit" v5 [(("back" : Str), v1), (("barred" : Str), v2), (("kinds" : Str), v3), (("lets" : Str), v4)] = [(("back" : Str), v1), (("barred" : Str), v2), (("kinds" : Str), v3), (("lets" : Str), v4), (("known_knit" : Str), v5)] := by
  rw [putF_cons (by decide +kernel), putF_cons (by decide +kernel), putF_cons (by decide +kernel), putF_cons (by decide +kernel), putF_nil]
theorem fldsB_lk {v1 v2 : V} {n : Int} {d : Addr} : (fldsB v1 v2 n d).lookup ("back" : Str) = some v1 ∧ (fldsB v1 v2 n d).lookup ("barred" : Str) = some v2 ∧ (fldsB v1 v2 n d).lookup ("kinds" : Str) = some (.int n) ∧ (fldsB v1 v2 n d).lookup ("lets" : Str) = some (.ref d) ∧ (fldsB v1 v2 n d).lookup ("known_knit" : Str) = some .non := by
  have h : ∀ (a b : Str) (v : V) (r : List (Str × V)), ¬ a = b → List.lookup a ((b, v) :: r) = List.lookup a r := fun a b v r n => by
    rw [List.lookup_cons]
    have : (a == b) = false := beq_eq_false_iff_ne.mpr n
    rw [this]
  have g : ∀ (a : Str) (v : V) (r : List (Str × V)), List.lookup a ((a, v) :: r) = some v := fun a v r => by
    rw [List.lookup_cons]
    simp
  unfold fldsB
  refine ⟨g _ _ _, ?_, ?_, ?_, ?_⟩
  · rw [h _ _ _ _ (by decide +kernel), g]
  · rw [h _ _ _ _ (by decide +kernel), h _ _ _ _ (by decide +kernel), g]
  · rw [h _ _ _ _ (by decide +kernel), h _ _ _ _ (by decide +kernel), h _ _ _ _ (by decide +kernel), g]
  · rw [h _ _ _ _ (by decide +kernel), h _ _ _ _ (by decide +kernel), h _ _ _ _ (by decide +kernel), h _ _ _ _ (by decide +kernel), g]
theorem Den.backs {G : Hp} {v : V} {b : Bk} (h : Den Θ G v (backD b)) : ∃ a, v = .ref a ∧ G a = some (.tup (b.back.map natV)) := by
  cases h with
  | @tup a vs _ ea hs =>
    refine ⟨a, rfl, ?_⟩
    rw [ea]
    congr 2
    have : ∀ (l : List Nat) (vs : List V), Dens Θ G vs (l.map fun (n : Nat) => D.int n) → vs = l.map natV := by
      intro l
      induction l with
      | nil => intro vs h; cases h; rfl
      | cons n l ih =>
        intro vs h
        cases h with
        | cons h1 h2 =>
          cases h1
          rw [ih _ h2]
          rfl
    exact this _ _ hs
theorem Den.trio {G : Hp} {v : V} {t : Nat × Nat × Nat} (h : Den Θ G v (trioD t)) : ∃ a, v = .ref a ∧ G a = some (.tup (trioV t)) := by
  cases h with
  | @tup a vs _ ea hs =>
    refine ⟨a, rfl, ?_⟩
    rw [ea]
    cases hs with
    | cons h1 hs => cases hs with
      | cons h2 hs => cases hs with
        | cons h3 hs =>
          cases hs
          cases h1
          cases h2
          cases h3
          rfl
theorem Den.bars {G : Hp} {v : V} {b : Bk} (h : Den Θ G v (barD b)) : ∃ a, v = .ref a ∧ TrioTup G a b.bar := by
  cases h with
  | @tup a vs _ ea hs =>
    have : ∀ (l : List (Nat × Nat × Nat)) (vs : List V), Dens Θ G vs (l.map trioD) → ∃ rs : List Addr, vs = rs.map V.ref ∧ rs.length = l.length ∧ ∀ (i : Nat) (r : Addr) (t : Nat × Nat × Nat), rs[i]? = some r → l[i]? = some t → G r = some (.tup (trioV t)) := by
      intro l
      induction l with
      | nil => intro vs h; cases h; exact ⟨[], rfl, rfl, fun i r t h => by cases h⟩
      | cons n l ih =>
        intro vs h
        cases h with
        | cons h1 h2 =>
          obtain ⟨rs, rfl, e, k⟩ := ih _ h2
          obtain ⟨r, rfl, er⟩ := Den.trio h1
          refine ⟨r :: rs, rfl, by simp [e], fun i => ?_⟩
          cases i with
          | zero => intro r' t h1 h2; cases h1; cases h2; exact er
          | succ i => intro r' t h1 h2; exact k i r' t (by simpa using h1) (by simpa using h2)
    obtain ⟨rs, e1, e2, e3⟩ := this _ _ hs
    exact ⟨a, rfl, rs, by rw [ea, e1], e2, e3⟩
end
end Dn

namespace Dn
open PySem PySem.Spec L2
open PyProof.Rows hiding St
section
variable {P : Program} {w : World} {K : PySem.W.Frag} {mg : Str → Option Value} {base : Heap} {Θ : Th}
theorem kvs_t {b : Bk} {ts : List (Nat × Nat × Nat)} {t : Nat × Nat × Nat} (h : b.bar.contains (formN b.back t) = true) : kvsOf b (ts ++ [t]) = kvsOf b ts := by
  unfold kvsOf
  rw [List.filter_append]
  have : [t].filter (fun t => !b.bar.contains (formN b.back t)) = [] := by rw [List.filter_cons_of_neg (by rw [h]; decide)]; rfl
  rw [this, List.append_nil]
theorem kvs_f {b : Bk} {ts : List (Nat × Nat × Nat)} {t : Nat × Nat × Nat} (h : b.bar.contains (formN b.back t) = false) : kvsOf b (ts ++ [t]) = kvsOf b ts ++ [(trioK t, V.bl true)] := by
  unfold kvsOf
  rw [List.filter_append, List.map_append]
  have : [t].filter (fun t => !b.bar.contains (formN b.back t)) = [t] := by rw [List.filter_cons_of_pos (by rw [h]; decide)]; rfl
  rw [this]
  rfl
theorem book_init {st : Stmt} {g : Addr} {fd : FuncData} {k : Nat} {f : List D → Res D} {d1 d2 : Rho → Out} {dk dr : Rho → Res D} {dt : Rho → Res Bool}
    {s1 s2 : Stmt} {ek it tst : Expr} {a1 a2 a3 a4 b1 b2 b3 b4 c1 c2 c4 e1 e2 e3 e4 f1 f2 f3 f4 g1 g2 h1 h2 h3 h4 h6 h7 h8 : Pos} {f0 h5 : Nat}
    (hΘ : Θ.K = K) (F : Fun K "__init__" "Book.__init__" st g fd) (T : BFacts K Θ.bk) (S : FnScope NB ["self", "back", "barred"] (defScope st)) (sp : BSpec d1 d2 dk dr dt f)
    (hb : defBody st = [s1, s2, .Assign [.Attribute (.Name "self" a1) "back" a2] (.Name "back" a3) a4, .Assign [.Attribute (.Name "self" b1) "barred" b2] (.Name "barred" b3) b4, .Assign [.Attribute (.Name "self" c1) "kinds" c2] ek c4,
      .Assign [.Attribute (.Name "self" e1) "lets" e2] (.Dict [] [] e3) e4, .Assign [.Attribute (.Name "self" f1) "known_knit" f2] (.Constant .none f0 f3) f4,
      .For (.Name "trio" g1) it [.If tst [.Assign [.Subscript (.Attribute (.Name "self" h1) "lets" h2) (.Name "trio" h3) h4] (.Constant (.bool true) h5 h6) h7] [] h8] [] g2])
    (vse : Vis (defScope st) "self") (vb : Vis (defScope st) "back") (vr : Vis (defScope st) "barred") (vt : Vis (defScope st) "trio") (lt : Loc (defScope st) "trio")
    (body : ∀ (cdv : Value) (A : Around) (outer : List Env) (s : Shared) (H : Hp) (E : XK) (hr : Room k (A.deeper (envOfC "Book.__init__" (defScope st) s.heap.objs.size g cdv))),
      let C := mkC (P := P) (w := w) (K := K) (mg := mg) (base := base) Θ hΘ false k NB S.nd "Book.__init__" (defScope st) g cdv A outer s H E hr
      VS C [] [] [] s1 d1 ∧ VS C [] [] [] s2 d2 ∧ VM C .e [] ek dk ∧ VM C .e [] it dr ∧ VT C [] tst dt ∧ swapsWith ek (some (.Attribute (.Name "self" c1) "kinds" c2)) c4.line C.X.env = pure false ∧
        (∀ x, foldedSetIterable it C.X.env x = pure x)) :
    FnOk P w K mg base (L2.CX P w) (k + 1) g fd ["self", "back", "barred"] (spB Θ mg f) := by
  refine F.okX (N := NB) S (fun vs H Q E ⟨_, _, _, _, _, _, _, _, e, _⟩ => by rw [e]; rfl) fun cdv A outer s H vs Q E hr ⟨B, p, dx, Hp0, v1, v2, x, y, ev, eH, np, ndx, nex, hB, den1, den2, q⟩ => ?_
  obtain ⟨w1, w2, wk, wi, wt, wsw, wfold⟩ := body cdv A outer s H E hr
  have hu := hu_of hr
  let C := mkC (P := P) (w := w) (K := K) (mg := mg) (base := base) Θ hΘ false k NB S.nd "Book.__init__" (defScope st) g cdv A outer s H E hr
  have hv0 : ∀ p, PE C.X (.Name "self" p) (tVar 0) := fun p => pe_var (X := C.X) rfl vse (by decide) (by decide)
  have hv1 : ∀ p, PE C.X (.Name "back" p) (tVar 1) := fun p => pe_var (X := C.X) rfl vb (by decide) (by decide)
  have hv2 : ∀ p, PE C.X (.Name "barred" p) (tVar 2) := fun p => pe_var (X := C.X) rfl vr (by decide) (by decide)
  have hv3 : ∀ p, PE C.X (.Name "trio" p) (tVar 3) := fun p => pe_var (X := C.X) rfl vt (by decide) (by decide)
  rw [hb]
  have lp := ps_for (pos := g2) C.po C.calm (vi_seq (tg := .Name "trio" g1) wi) (vg_name (C := C) (O := []) (i := 3) (pos := g1) rfl lt) (pss_one (ps_if (pos := h8) wt (pss_one (ps_dput (pos := h7) (pos' := h4) hu (pe_fld (pos := h2) (f := "lets") (hv0 h1) rfl) (hv3 h3) (pe_bl (b := true) (j := h5) (pos := h6)) rfl)) pss_nil)) wfold
  refine ⟨_, pss_cons w1 (pss_cons w2 (pss_cons (ps_fld (hv0 _) (hv1 _) rfl) (pss_cons (ps_fld (hv0 _) (hv2 _) rfl) (pss_cons (ps_fld (hv0 _) wk wsw) (pss_cons (ps_fld (hv0 _) pe_dnewT rfl) (pss_cons (ps_fld (hv0 _) pe_non rfl) (pss_locked (pss_one lp)))))))), ?_⟩
  have sf := sp x y
  have npd : ∀ b, B b → b ≠ p := fun b hb z => hB b hb (z ▸ np)
  have x0 : Ext Θ (more B p) Hp0 H := by
    rw [eH]
    exact .same fun b o e => by rw [upd_ne (ne_of_none e np), upd_ne (ne_of_none e ndx)]; exact e
  have hHp : H p = some (.ins Θ.bk dx []) := by rw [eH]; exact upd_same
  have sh : Shows Θ (hide B Hp0) Hp0 (hide (more B p) H) H := ⟨hide_sub, ⟨_, x0⟩, fun b o o' h1 h2 => by
    obtain ⟨k1, k2⟩ := of_hide h1
    exact hide_of h2 fun z => z.elim k2 fun z => by rw [z, np] at k1; cases k1⟩
  have hB' : ∀ b, more B p b → H b ≠ none := fun b z => z.elim (fun z => x0.there (hB b z)) fun z => by rw [z, hHp]; exact fun y => nomatch y
  have s0 : Stt Θ (more B p) H [] (R3 p x y none) (L2.start NB vs) H := by
    have := Stt.init (Θ := Θ) (B := more B p) (H := H) (vs := vs) (ds := [.obj p, x, y]) (n := 3) hB' (by rw [ev]; exact .cons .obj (.cons (Den.shows sh den1) (.cons (Den.shows sh den2) .nil))) NB
    exact this
  refine ⟨more B p, H, R3 p x y none, s0, ?_⟩
  cases ef : f [x, y] with
  | bad => rw [ef] at q; exact q.elim
  | exc c pp =>
    rw [ef] at sf q
    have out : ∀ cls dd σ' H', Stt Θ (more B p) H [] (R3 p x y none) σ' H' → ExcOk Θ mg H' c pp cls dd → E cls dd H' := fun cls dd σ' H' s' eo => q cls dd H' (x0.trans s'.ext |>.mono fun a z => .inl z) eo
    rcases sf p with z | ⟨z1, z2⟩
    · rw [z]
      exact fun cls dd σ' H' s' _ eo => out cls dd σ' H' s' eo
    · rw [z1]
      intro σ' H' s' _
      refine ⟨more B p, H, _, s', ?_⟩
      rw [z2]
      exact fun cls dd σ' H' s' _ eo => out cls dd σ' H' s' eo
  | ok d =>
    rw [ef] at sf q
    obtain ⟨b, rfl, rfl, rfl, hlen, sfa⟩ := sf
    obtain ⟨z1, z2, z3, z4, z5⟩ := sfa p
    rw [z1]
    intro σ1 H1 s1' _
    refine ⟨more B p, H, _, s1', ?_⟩
    rw [z2]
    intro σ2 H2 s2' _
    have e0 : H2 p = some (.ins Θ.bk dx []) := by
      rcases s2'.ext p _ hHp with e | ⟨n, _⟩
      · exact e
      · exact (n (.inr rfl)).elim
    have s2 := s2'.older x0
    obtain ⟨u0, l0, q0⟩ := s2.val 0 (.obj p) (by simp) rfl
    obtain ⟨u1, l1, q1⟩ := s2.val 1 (backD b) (by simp) rfl
    obtain ⟨u2, l2, q2⟩ := s2.val 2 (barD b) (by simp) rfl
    have eu0 : u0 = .ref p := by cases q0; rfl
    subst eu0
    -- self.back = back
    refine ⟨u1, l1, _, l0, p, Θ.bk, dx, [], rfl, e0, T.cl, T.n1, (by show 0 < 1000; decide), ?_⟩
    -- self.barred = barred
    refine ⟨u2, l2, _, l0, p, Θ.bk, dx, _, rfl, upd_same, T.cl, T.n2, (by show 1 < 1000; decide), ?_⟩
    rw [fldsB_1, fldsB_2]
    -- self.kinds = len(back)
    refine ⟨more B p, Hp0, R3 p (backD b) (barD b) none, (s2.put (.inr rfl) np).put (.inr rfl) np, ?_⟩
    have ek' : dk (R3 p (backD b) (barD b) none) = .ok (.int b.back.length) := z3
    rw [ek']
    intro vk H3 x3 s3 pk
    cases (PP.int pk)
    have e3 : H3 p = some (.ins Θ.bk dx [(("back" : Str), u1), (("barred" : Str), u2)]) := by
      rcases x3 p _ upd_same with e | ⟨n, _⟩
      · exact e
      · exact (n (.inl (.inr rfl))).elim
    refine ⟨_, l0, p, Θ.bk, dx, _, rfl, e3, T.cl, T.n3, (by show 2 < 1000; decide), ?_⟩
    rw [fldsB_3]
    -- self.lets = {}
    intro d nd
    have npd' : p ≠ d := fun z => by rw [← z, upd_same] at nd; cases nd
    have nd3 : H3 d = none := by rw [upd_ne npd'.symm] at nd; exact nd
    have nd0 : Hp0 d = none := s3.ext.new d nd3
    refine ⟨_, l0, p, Θ.bk, dx, _, rfl, (by rw [upd_ne npd']; exact upd_same), T.cl, T.n4, (by show 3 < 1000; decide), ?_⟩
    rw [fldsB_4]
    refine ⟨_, l0, p, Θ.bk, dx, _, rfl, upd_same, T.cl, T.n5, (by show 4 < 1000; decide), ?_⟩
    rw [fldsB_5]
    -- the loop
    have s4 : Stt Θ (more (more B p) d) Hp0 [] (R3 p (backD b) (barD b) none) σ2 (upd (upd (upd (upd H3 p (.ins Θ.bk dx [(("back" : Str), u1), (("barred" : Str), u2), (("kinds" : Str), V.int b.back.length)])) d (.dT [])) p (.ins Θ.bk dx [(("back" : Str), u1), (("barred" : Str), u2), (("kinds" : Str), V.int b.back.length), (("lets" : Str), V.ref d)])) p
        (.ins Θ.bk dx [(("back" : Str), u1), (("barred" : Str), u2), (("kinds" : Str), V.int b.back.length), (("lets" : Str), V.ref d), (("known_knit" : Str), V.non)])) := by
      have t1 := s3.put (L := p) (o := .ins Θ.bk dx [(("back" : Str), u1), (("barred" : Str), u2), (("kinds" : Str), V.int b.back.length)]) (.inr rfl) np
      have t2 := t1.newB (L := d) (o := .dT []) nd
      exact (t2.put (L := p) (.inl (.inr rfl)) np).put (L := p) (.inl (.inr rfl)) np
    refine ⟨more (more B p) d, Hp0, _, s4, ?_⟩
    have er : dWalk dr (R3 p (backD b) (barD b) none) = .ok ((allTrios b.back.length).map trioD) := by
      unfold dWalk
      rw [z4]
      rfl
    rw [er]
    intro J H5 x5 s5 src hl5
    have keepP : ∀ {HA HB : Hp} {σA : L2.St} {o : HO}, Ext Θ (Hd (more (more B p) d) σA []) HA HB → HA p = some o → HB p = some o := fun x e => by
      rcases x p _ e with e | ⟨n, _⟩
      · exact e
      · exact (n (.inl (.inl (.inr rfl)))).elim
    have keepD : ∀ {HA HB : Hp} {σA : L2.St} {o : HO}, Ext Θ (Hd (more (more B p) d) σA []) HA HB → HA d = some o → HB d = some o := fun x e => by
      rcases x d _ e with e | ⟨n, _⟩
      · exact e
      · exact (n (.inl (.inr rfl))).elim
    have e5p := keepP x5 upd_same
    have e5d := keepD x5 (by rw [upd_ne npd'.symm, upd_ne npd'.symm, upd_same])
    refine ⟨fun i m σ6 H6 => m = (allTrios b.back.length).length - i ∧ ∃ qq, Stt Θ (more (more B p) d) Hp0 [] (R3 p (backD b) (barD b) qq) σ6 H6 ∧ Vs Θ (hid (more (more B p) d) σ2 [] H5) (hid (more (more B p) d) σ6 [] H6) ∧
        H6 p = some (.ins Θ.bk dx [(("back" : Str), u1), (("barred" : Str), u2), (("kinds" : Str), V.int b.back.length), (("lets" : Str), V.ref d), (("known_knit" : Str), V.non)]) ∧ H6 d = some (.dT (kvsOf b ((allTrios b.back.length).take i))) ∧ σ6[1]? = some (some u1) ∧ σ6[2]? = some (some u2),
      ⟨_, rfl, none, s5, .refl, e5p, e5d, l1, l2⟩, ?_⟩
    rintro i m σ6 H6 ⟨rfl, qq, s6, v6, e6p, e6d, m1, m2⟩
    obtain ⟨go, stop⟩ := src (more (more B p) d) Hp0 [] i H6 _ σ6 s6 v6
    by_cases hil : i < (allTrios b.back.length).length
    · have ed : ((allTrios b.back.length).map trioD)[i]? = some (trioD (allTrios b.back.length)[i]) := by
        rw [List.getElem?_map, List.getElem?_eq_getElem hil]
        rfl
      have tk : (allTrios b.back.length).take (i + 1) = (allTrios b.back.length).take i ++ [(allTrios b.back.length)[i]] := by
        rw [List.take_add_one, List.getElem?_eq_getElem hil]
        rfl
      have mem : (allTrios b.back.length)[i] ∈ allTrios b.back.length := List.getElem_mem hil
      have spl : allTrios b.back.length = (allTrios b.back.length).take i ++ (allTrios b.back.length)[i] :: (allTrios b.back.length).drop (i + 1) := by
        rw [← List.drop_eq_getElem_cons hil, List.take_append_drop]
      generalize et : (allTrios b.back.length)[i] = t at *
      obtain ⟨g1, g2⟩ := go _ ed
      refine .inr ⟨g1, fun σ7 H7 => ∃ qq, Stt Θ (more (more B p) d) Hp0 [] (R3 p (backD b) (barD b) qq) σ7 H7 ∧ Vs Θ (hid (more (more B p) d) σ2 [] H5) (hid (more (more B p) d) σ7 [] H7) ∧
        H7 p = some (.ins Θ.bk dx [(("back" : Str), u1), (("barred" : Str), u2), (("kinds" : Str), V.int b.back.length), (("lets" : Str), V.ref d), (("known_knit" : Str), V.non)]) ∧ H7 d = some (.dT (kvsOf b ((allTrios b.back.length).take (i + 1)))) ∧ σ7[1]? = some (some u1) ∧ σ7[2]? = some (some u2), fun σ7 H7 h => ⟨_, by omega, rfl, h⟩, fun yv H7 hy => ?_⟩
      obtain ⟨x7, hd7⟩ := g2 yv H7 hy
      have s7 := s6.up x7
      refine ⟨more (more B p) d, Hp0, _, trioD t, s7, hd7, R3 p (backD b) (barD b) (some (trioD t)), rfl, fun σ8 o8 s8 x8 => ⟨more (more B p) d, Hp0, _, s8, ?_⟩⟩
      rw [z5 t mem]
      intro H9 x9 s9
      have e9p := keepP x9 (keepP x7 e6p)
      have e9d := keepD x9 (keepD x7 e6d)
      have v9 : Vs Θ (hid (more (more B p) d) σ2 [] H5) (hid (more (more B p) d) σ8 [] H9) := (v6.trans (x7.vis.trans x8)).trans x9.vis
      cases hc : b.bar.contains (formN b.back t) with
      | true =>
        refine iteF ?_
        refine ⟨_, s9, v9, e9p, ?_, (o8.2 1 (by decide)).trans m1, (o8.2 2 (by decide)).trans m2⟩
        rw [tk, kvs_t hc]
        exact e9d
      | false =>
        refine iteT ?_
        obtain ⟨w0, m0, r0⟩ := s9.val 0 (.obj p) (by simp) rfl
        obtain ⟨w3, m3, r3⟩ := s9.val 3 (trioD t) (by simp) rfl
        have ew0 : w0 = .ref p := by cases r0; rfl
        subst ew0
        obtain ⟨at3, rfl, ea3⟩ := r3.trio
        refine ⟨_, m0, p, Θ.bk, dx, _, _, rfl, e9p, T.cl, T.n4, fldsB_lk.2.2.2.1, _, m3, d, _, rfl, DPut.t (k := trioK t) e9d (hid_sub _ _ ea3) (small1000 ?_), ?_⟩
        · unfold kvsOf
          rw [List.length_map]
          exact Nat.le_trans (List.length_filter_le _ _) (by rw [List.length_take]; omega)
        · refine ⟨_, s9.put (L := d) (.inr rfl) nd0, ?_, ?_, ?_, (o8.2 1 (by decide)).trans m1, (o8.2 2 (by decide)).trans m2⟩
          · rw [hid_kept (.inr rfl)]; exact v9
          · rw [upd_ne npd']; exact e9p
          · rw [upd_same, put_new spl, tk, kvs_f hc]
    · refine .inl ⟨stop (by simpa using hil), d, _, e6d, trivial, fun od => ?_⟩
      have tk : (allTrios b.back.length).take i = allTrios b.back.length := List.take_of_length_le (by omega)
      rw [tk]
      have sE := s6.put (L := d) (o := .frz od (.dT (kvsOf b (allTrios b.back.length)))) (.inr rfl) nd0
      obtain ⟨w1, n1, r1⟩ := s6.val 1 (backD b) (by simp) rfl
      obtain ⟨w2, n2, r2⟩ := s6.val 2 (barD b) (by simp) rfl
      rw [m1] at n1
      rw [m2] at n2
      cases n1
      cases n2
      obtain ⟨ab, rfl, eb⟩ := r1.backs
      obtain ⟨ar, rfl, tr⟩ := r2.bars
      have go : ∀ a o, hid (more (more B p) d) σ6 [] H6 a = some o → hide B (upd H6 d (.frz od (.dT (kvsOf b (allTrios b.back.length))))) a = some o := fun a o e => by
        obtain ⟨k1, k2⟩ := of_hid e
        have nad : a ≠ d := fun z => k2 (.inl (.inr z))
        exact hide_of (by rw [upd_ne nad]; exact k1) fun z => k2 (.inl (.inl (.inl z)))
      have npB : ¬ B p := fun z => hB p z np
      have ndB : ¬ B d := fun z => hB d z nd0
      refine q _ (sE.ext.mono fun a z => .inl (.inl z)) (.book (a := p) (dx := dx) (hide_of (by rw [upd_ne npd']; exact e6p) npB) ⟨⟨ab, fldsB_lk.1, go _ _ eb⟩, ⟨ar, fldsB_lk.2.1, ?_⟩, fldsB_lk.2.2.1, ⟨d, fldsB_lk.2.2.2.1, od, hide_of upd_same ndB⟩, (by show 5 ≤ 5; decide), rfl⟩ ⟨_, fldsB_lk.2.2.2.2, .inl rfl⟩)
      obtain ⟨rs, t1, t2, t3⟩ := tr
      exact ⟨rs, go _ _ t1, t2, fun i r t h1 h2 => go _ _ (t3 i r t h1 h2)⟩
end
end Dn

namespace Dn
open PySem PySem.Spec L2
open PyProof.Rows hiding St
/-! ### making, by a state's own ends -/
section
variable {X : Cx} {CX : CXT} {k : Nat} {f cA : Addr} {fd : FuncData} {ps : List Str} {sp : Sp} {E : L2.St → XK} {x : Str} {p pos : Pos} {e : Expr} {es : List Expr} {t : TA}
theorem make_at {pins : List (Addr × Obj)} {σ : L2.St} {H : Hp} {s : Shared} {Q : VK} {us : List Value} {vs : List V} (M : Mk X.K cA f) (F : FnOk X.prog X.w X.K X.mg X.base CX k f fd ps sp) (room : Room (k + 1) X.A) (bs : Binds X.K fd ps []) (hx : PassesAt CX X σ (E σ)) (I : Inv X pins σ H s) (r : Vals vs us)
    (h : ∀ x dx, H x = none → H dx = none → dx ≠ x → sp (.ref x :: vs) (upd (upd H dx (.own x)) x (.ins cA dx [])) (fun v H2 => v = .non ∧ Q (.ref x) H2) (E σ)) : wpAny (model X.prog X.w) X.A (call (.ref cA) us) (EP X pins σ Q) X.xe s := by
  have z := h (s.heap.objs.size + 1) s.heap.objs.size (I.hok.fresh (Nat.le_succ _)) (I.hok.fresh (Nat.le_refl _)) (Nat.ne_of_lt (Nat.lt_succ_self _))
  have J := Inv.made (C := cA) I
  have rr : Vals (V.ref (s.heap.objs.size + 1) :: vs) (Value.ref (s.heap.objs.size + 1) :: us) := .cons rfl r
  have len : (Value.ref (s.heap.objs.size + 1) :: us).length = ps.length := by rw [← rr.length]; exact F.len _ _ _ _ z
  have bb := bs _ (Value.ref (s.heap.objs.size + 1) :: us) J.kIn (by rw [List.append_nil]; exact len)
  rw [List.append_nil] at bb
  refine wpAny_call (make_map (f := f) I.kIn M.makes M.init (beq_iff_eq.mp M.fn) (codeAny_mono (F.run _ X.stack _ _ ⟨Value.ref (s.heap.objs.size + 1) :: us, []⟩ (Value.ref (s.heap.objs.size + 1) :: us) _ _ (E σ) (room.make cA us []) (J.env0.make cA us []) bb rr z) fun res s2 hz => ?_))
  cases res with
  | error err => exact hx pins _ _ err s2 J hz
  | ok fl =>
    cases fl with
    | ret u =>
      obtain ⟨v, H2, I2, _, rfl, q⟩ := J.after hz
      exact ⟨by assumption, ⟨V.ref (s.heap.objs.size + 1), H2, I2, rfl, q⟩⟩
    | next => exact hz.elim
    | brk => exact hz.elim
    | cont => exact hz.elim
def tMakeS (cA : Addr) (sp : Sp) (E : L2.St → XK) (t : TA) : TE := fun σ H Q => t σ H fun vs H1 => ∀ x dx, H1 x = none → H1 dx = none → dx ≠ x → sp (.ref x :: vs) (upd (upd H1 dx (.own x)) x (.ins cA dx [])) (fun v H2 => v = .non ∧ Q (.ref x) H2) (E σ)
theorem pe_makeS (M : Mk X.K cA f) (F : FnOk X.prog X.w X.K X.mg X.base CX k f fd ps sp) (room : Room (k + 1) X.A) (hg : Gl X x) (hm : X.mg x = some (.ref cA)) (bs : Binds X.K fd ps []) (hx : ∀ σ, PassesAt CX X σ (E σ)) (ha : PA X (e :: es) t)
    (hdb : (x == ("__debug__" : Str)) = false := by decide) (he : starEach (e :: es) X.env = (false, eval e X.env) :: starEach es X.env := by rfl) (hpl : (backTo pos (starEach es X.env)).any (·.1) = false := by rfl) : PE X (.Call (.Name x p) (e :: es) [] pos) (tMakeS cA sp E t) :=
  ⟨fun pins s σ H Q I h => wpAny_Call_Name_kw (ld_glob I hg hm (PySem.W.callWith_K (h₀ := X.base) I.ok.mod.kin M.kp (thn (ha.run pos pins s σ H _ I h) fun us s1 ⟨vs, H1, I1, r, q⟩ => ⟨I1.kIn, make_at M F room bs (hx σ) I1 r q⟩) he hpl) hdb)⟩
end
section
variable {C : Ctx} {m ma mb mc : Mode} {O : List Nat} {e a b c : Expr} {es : List Expr} {den da db dc : Rho → Res D} {pos p p2 apos : Pos} {dr : Rho → Res (List D)} {x : Str}
theorem ve_make {k : Nat} {f : List D → Res D} (F : BOk C.X.prog C.X.w C.X.K C.X.mg C.X.base C.Θ k f) (ha : VL C O (e :: es) dr) (hk : k + 1 ≤ C.lv) (hg : Gl C.X "Book" := by rfl)
    (he : starEach (e :: es) C.X.env = (false, eval e C.X.env) :: starEach es C.X.env := by rfl) (hpl : (backTo pos (starEach es C.X.env)).any (·.1) = false := by rfl) :
    VM C .e O (.Call (.Name "Book" p) (e :: es) [] pos) (dCall 2 f dr) := by
  obtain ⟨g, fd, M, hm, hb, G⟩ := F.ex
  exact PE.wk (pe_makeS (E := WE C.W) M G (C.room.mono hk) hg hm hb (fun σ => passAt C.tk σ) ha (by decide) he hpl) fun σ H Q ⟨B, H0, ρ, s, q⟩ => rdL_bind s q fun ds vs H1 x1 s1 hs q => by
    obtain ⟨hn, q⟩ := Aft.ite q
    intro p dx np ndx nex
    obtain ⟨d1, d2, rfl⟩ : ∃ d1 d2, ds = [d1, d2] := by
      match ds, hn with
      | [d1, d2], _ => exact ⟨d1, d2, rfl⟩
    cases hs with
    | cons h1 hs => cases hs with
      | cons h2 hs =>
        cases hs
        refine ⟨Hd B σ O, p, dx, H1, _, _, d1, d2, rfl, rfl, np, ndx, nex, s1.bexHd, h1, h2, ?_⟩
        generalize f [d1, d2] = r at q ⊢
        cases r with
        | bad => exact q.elim
        | exc c pp => exact fun cls dd H2 x2 eo => q cls dd H2 x2 (s1.up x2) eo
        | ok d => exact fun H2 x2 dn => ⟨rfl, q _ H2 x2 (s1.up x2) dn⟩
/-! ### a book's attributes -/
def f_back : D → Res D
  | .book b => .ok (backD b)
  | _ => .bad
def f_barred : D → Res D
  | .book b => .ok (barD b)
  | _ => .bad
def f_kinds : D → Res D
  | .book b => .ok (.int b.back.length)
  | _ => .bad
def f_lets : D → Res D
  | .book b => .ok (.lets b)
  | _ => .bad
theorem dens_nats {Θ : Th} {G : Hp} : ∀ l : List Nat, Dens Θ G (l.map natV) (l.map fun (n : Nat) => D.int n)
  | [] => .nil
  | n :: l => .cons (.int _) (dens_nats l)
theorem den_trio {Θ : Th} {G : Hp} {r : Addr} {t : Nat × Nat × Nat} (h : G r = some (.tup (trioV t))) : Den Θ G (.ref r) (trioD t) := .tup h (.cons (.int _) (.cons (.int _) (.cons (.int _) .nil)))
theorem dens_trios {Θ : Th} {G : Hp} : ∀ (rs : List Addr) (ts : List (Nat × Nat × Nat)), rs.length = ts.length → (∀ (i : Nat) (r : Addr) (t : Nat × Nat × Nat), rs[i]? = some r → ts[i]? = some t → G r = some (.tup (trioV t))) → Dens Θ G (rs.map V.ref) (ts.map trioD)
  | [], [], _, _ => .nil
  | [], _ :: _, h, _ => by simp at h
  | _ :: _, [], h, _ => by simp at h
  | r :: rs, t :: ts, h, k => .cons (den_trio (k 0 r t rfl rfl)) (dens_trios rs ts (by simpa using h) fun i r' t' h1 h2 => k (i + 1) r' t' (by simpa using h1) (by simpa using h2))
theorem ve_bk_back (T : BFacts C.X.K C.Θ.bk) (ha : VM C .e O a da) (hb : attributeBase a "back" C.X.env (eval a C.X.env) = eval a C.X.env := by rfl) : VM C .e O (.Attribute a "back" pos) (dUn f_back da) :=
  PE.wk (pe_fld ha hb) fun σ H Q ⟨B, H0, ρ, s, q⟩ => rd_bind nh_refl s q fun d v H1 x1 s1 p1 q => by
    cases d with
    | book bk =>
      have p1 : Den _ _ _ _ := p1
      cases p1 with
      | @book A dx fs _ e1 e2 _ =>
        obtain ⟨a2, l2, e3⟩ := e2.back
        exact ⟨A, _, dx, fs, _, rfl, hid_sub _ _ e1, T.cl, T.n1, l2, q _ H1 .refl s1 (Den.tup e3 (dens_nats _))⟩
    | _ => exact q.elim
theorem ve_bk_barred (T : BFacts C.X.K C.Θ.bk) (ha : VM C .e O a da) (hb : attributeBase a "barred" C.X.env (eval a C.X.env) = eval a C.X.env := by rfl) : VM C .e O (.Attribute a "barred" pos) (dUn f_barred da) :=
  PE.wk (pe_fld ha hb) fun σ H Q ⟨B, H0, ρ, s, q⟩ => rd_bind nh_refl s q fun d v H1 x1 s1 p1 q => by
    cases d with
    | book bk =>
      have p1 : Den _ _ _ _ := p1
      cases p1 with
      | @book A dx fs _ e1 e2 _ =>
        obtain ⟨a2, l2, rs, e3, e4, e5⟩ := e2.bar
        exact ⟨A, _, dx, fs, _, rfl, hid_sub _ _ e1, T.cl, T.n2, l2, q _ H1 .refl s1 (Den.tup e3 (dens_trios _ _ e4 e5))⟩
    | _ => exact q.elim
theorem ve_bk_kinds (T : BFacts C.X.K C.Θ.bk) (ha : VM C .e O a da) (hb : attributeBase a "kinds" C.X.env (eval a C.X.env) = eval a C.X.env := by rfl) : VM C .e O (.Attribute a "kinds" pos) (dUn f_kinds da) :=
  PE.wk (pe_fld ha hb) fun σ H Q ⟨B, H0, ρ, s, q⟩ => rd_bind nh_refl s q fun d v H1 x1 s1 p1 q => by
    cases d with
    | book bk =>
      have p1 : Den _ _ _ _ := p1
      cases p1 with
      | @book A dx fs _ e1 e2 _ => exact ⟨A, _, dx, fs, _, rfl, hid_sub _ _ e1, T.cl, T.n3, e2.kinds, q _ H1 .refl s1 (Den.int _)⟩
    | _ => exact q.elim
theorem ve_bk_lets (T : BFacts C.X.K C.Θ.bk) (ha : VM C .e O a da) (hb : attributeBase a "lets" C.X.env (eval a C.X.env) = eval a C.X.env := by rfl) : VM C .e O (.Attribute a "lets" pos) (dUn f_lets da) :=
  PE.wk (pe_fld ha hb) fun σ H Q ⟨B, H0, ρ, s, q⟩ => rd_bind nh_refl s q fun d v H1 x1 s1 p1 q => by
    cases d with
    | book bk =>
      have p1 : Den _ _ _ _ := p1
      cases p1 with
      | @book A dx fs _ e1 e2 _ =>
        obtain ⟨a2, l2, o, e3⟩ := e2.lets
        exact ⟨A, _, dx, fs, _, rfl, hid_sub _ _ e1, T.cl, T.n4, l2, q _ H1 .refl s1 (Den.lets e3)⟩
    | _ => exact q.elim
end
end Dn

namespace Dn
open PySem PySem.Spec L2
open PyProof.Rows hiding St
/-! ### books compared -/
section
variable {X : Cx} {CX : CXT} {A : Around} {n : Nat} {f cA : Addr} {fd : FuncData} {ps : List Str} {sp : Sp} {E : XK} {pins : List (Addr × Obj)} {σ : L2.St} {H : Hp} {s : Shared} {a b : Addr} {Q : VK} {Qb : Bool → Hp → Prop}
theorem eq_run (F : FnOk X.prog X.w X.K X.mg X.base CX n f fd ps sp) (bs : Binds X.K fd ps []) (hx : Passes CX X E) (sb : Sub X n A) (I : Inv X pins σ H s) (h : sp [.ref a, .ref b] H (fun v H' => ∃ c, v = .bl c ∧ Qb c H') E) :
    wpAny (model X.prog X.w) A (call (.ref f) [.ref a, .ref b]) (fun u s' => ∃ c H', u = .bool c ∧ Inv X pins σ H' s' ∧ Qb c H') X.xe s := by
  have en : Env0 X.prog X.w X.K X.mg X.base A X.stack s H := by
    have z := I.env0
    exact { z with frames := by rw [sb.fr]; exact z.frames }
  have rr : Vals [V.ref a, V.ref b] [Value.ref a, Value.ref b] := .cons rfl (.cons rfl .nil)
  have len : [Value.ref a, Value.ref b].length = ps.length := by rw [← rr.length]; exact F.len _ _ _ _ h
  have bb := bs s [Value.ref a, Value.ref b] I.kIn (by rw [List.append_nil]; exact len)
  rw [List.append_nil] at bb
  refine wpAny_call (codeAny_mono (F.run A X.stack s H ⟨[.ref a, .ref b], []⟩ [.ref a, .ref b] [.ref a, .ref b] _ E sb.room en bb rr h) fun res s2 hz => ?_)
  cases res with
  | error err => exact hx pins σ H s err s2 I hz
  | ok fl =>
    cases fl with
    | ret u =>
      obtain ⟨v, H2, I2, rv, ⟨c, rfl, q⟩⟩ := I.after hz
      exact ⟨c, H2, rv, I2, q⟩
    | next => exact hz.elim
    | brk => exact hz.elim
    | cont => exact hz.elim
def rBk (cA : Addr) (sp : Sp) (g : Bool → Bool) : R2 := fun x y H Q => ∃ a b dx dy fs gs, x = .ref a ∧ y = .ref b ∧ H a = some (.ins cA dx fs) ∧ H b = some (.ins cA dy gs) ∧ sp [.ref a, .ref b] H (fun v H' => ∃ c, v = .bl c ∧ Q (.bl (g c)) H') E0
theorem op_bkEq (F : FnOk X.prog X.w X.K X.mg X.base CX n f fd ps sp) (bs : Binds X.K fd ps []) (hx : Passes CX X E0) (room : Room n X.A) (he : PySem.W.findIn X.K (.ref cA) "__eq__" = some (some (.ref f))) (hf : PySem.W.isFn X.K (.ref f) = true) : OpR X (compareOp .Eq) (rBk cA sp id) := by
  intro pins s σ H x y v u Q I rx ry ⟨a, b, dx, dy, fs, gs, ex, ey, ea, eb, q⟩
  subst ex ey
  cases rx
  cases ry
  show wpAny (model X.prog X.w) X.A (richCompare .Eq (.ref a) (.ref b)) (EP X pins σ Q) X.xe s
  obtain ⟨_, J1, _⟩ := ins_get I.hok ea
  obtain ⟨_, J2, _⟩ := ins_get I.hok eb
  obtain ⟨_, J1, _⟩ := J1.look
  obtain ⟨_, J2, _⟩ := J2.look
  obtain ⟨_, hF⟩ := I.fr
  refine PySem.W.cmp_K (tb := .ref cA) room.units0 hF I.ok.mod.kin J1 J2.type (by simp [PySem.W.notFirst]) he hf ?_
  refine wpAny_mono (eq_run F bs hx ⟨room, rfl⟩ I (Qb := fun c H' => Q (.bl c) H') q) (fun u s2 z => ?_) fun _ _ z => z
  obtain ⟨c, H2, rfl, I2, q2⟩ := z
  exact ⟨.bl c, H2, I2, rfl, q2⟩
theorem ne_entry {K : PySem.W.Frag} {M : Model} {E : Value → Shared → Prop} {ox : Obj} {od : Option Obj} {R : Fin → Shared → Prop} (hu : A.units < cLine) (X0 : K.In s.heap) (J : PySem.W.InstAt s.heap a ox cA od) (he : PySem.W.findIn K (.ref cA) "__eq__" = some (some (.ref f))) (hf : PySem.W.isFn K (.ref f) = true)
    (h : wpAny M A (call (.ref f) [.ref a, .ref b]) (fun v s' => ∃ c, v = .bool c ∧ R (.done (.ret (.bool (!c)))) s') E s) : wpAny M A (Builtin.«object.__ne__» ⟨[.ref a, .ref b], []⟩) R E s := by
  unfold Builtin.«object.__ne__»
  repeat (first
    | with_reducible refine wpAny_cRoomFor hu ?_
    | (refine wpAny_bind (m := callSpecialIfBound? (.ref a) (Str.ofString "__eq__") [.ref b]) (PySem.W.ifBound_K X0 J he hf (wpAny_mono h (fun v s2 hr => by
        obtain ⟨c, rfl, hq⟩ := hr
        repeat (first | exact hq | exact wpAny_pure hq | exact wpAny_truthy_bool hq | (refine wpAny_bind (m := truthy (.bool _)) (wpAny_truthy_bool ?_)) | wp_step)) fun _ _ z => z)))
    | wp_step)
theorem ne_bound {K : PySem.W.Frag} {M : Model} {E : Value → Shared → Prop} {ox : Obj} {od : Option Obj} {R : Option Value → Shared → Prop} (X0 : K.In s.heap) (J : PySem.W.InstAt s.heap a ox cA od) (hs : PySem.W.findIn K (.ref cA) "__ne__" = some (some (.builtin "object.__ne__")))
    (h : wpAny M A (call (.builtin "object.__ne__") [.ref a, .ref b]) (fun v => R (some v)) E s) : wpAny M A (callSpecialIfBound? (.ref a) "__ne__" [.ref b]) R E s := by
  simp only [callSpecialIfBound?, bindSpecialIfBound?]
  refine wpAny_holding (wpAny_bind (wpAny_bind (wpAny_bind (J.type.here ((PySem.W.looks_findIn X0 hs).here ?_)))))
  have e2 : wpAny M A (call (.builtin "object.__ne__") ([.ref a] ++ [.ref b]) >>= fun v => pure (some v)) R E s := wpAny_bind (wpAny_mono h (fun _ _ z => wpAny_pure z) fun _ _ z => z)
  refine wpAny_bind (wpAny_askSetting (wpAny_ite ?_))
  split
  · exact wpAny_bind (wpAny_of_eq (F.cmp_object.ne.bind _) (wpAny_pure (by exact e2)))
  · exact wpAny_tryCatch (wpAny_bind (wpAny_of_eq (F.cmp_object.ne.bind _) (wpAny_pure (by exact e2))))
theorem op_bkNe (G : FnOk X.prog X.w X.K X.mg X.base CX n f fd ps sp) (bs : Binds X.K fd ps []) (hx : Passes CX X E0) (room : Room (n + 1) X.A) (he : PySem.W.findIn X.K (.ref cA) "__eq__" = some (some (.ref f))) (hf : PySem.W.isFn X.K (.ref f) = true)
    (hne : PySem.W.findIn X.K (.ref cA) "__ne__" = some (some (.builtin "object.__ne__"))) (hm : PySem.W.mroIn X.K cA (.type "object") = some true) : OpR X (compareOp .NotEq) (rBk cA sp not) := by
  intro pins s σ H x y v u Q I rx ry ⟨a, b, dx, dy, fs, gs, ex, ey, ea, eb, q⟩
  subst ex ey
  cases rx
  cases ry
  show wpAny (model X.prog X.w) X.A (richCompare .NotEq (.ref a) (.ref b)) (EP X pins σ Q) X.xe s
  obtain ⟨_, J1, _⟩ := ins_get I.hok ea
  obtain ⟨_, J2, _⟩ := ins_get I.hok eb
  obtain ⟨_, J1, _⟩ := J1.look
  obtain ⟨_, J2, _⟩ := J2.look
  have sb : Sub X n X.A.in1 := Sub.in1 ⟨room, rfl⟩
  have one : wpAny (model X.prog X.w) X.A (tryCompare (.ref a) "__ne__" (.ref b)) (fun r s' => ∃ c H', r = some (.bool c) ∧ Inv X pins σ H' s' ∧ Q (.bl c) H') X.xe s := by
    unfold tryCompare
    refine wpAny_bind (ne_bound I.kIn J1 hne (wpAny_call (codeAny_call_builtin F.cmp_object.ne.plain F.cmpEntry_ne (PySem.W.check_slot F.cmpKind_ne F.cmpSplit_ne (J1.type.andThen (PySem.W.looks_mroIn I.kIn hm)) (F.cmpArgs_ne _ _) ?_))))
    refine ne_entry sb.room.units0 I.kIn J1 he hf (wpAny_mono (eq_run G bs hx sb I (Qb := fun c H' => Q (.bl (!c)) H') q) (fun u s2 z => ?_) fun _ _ z => z)
    obtain ⟨c, H2, rfl, I2, q2⟩ := z
    exact ⟨c, rfl, wpAny_pure ⟨!c, H2, rfl, I2, q2⟩⟩
  unfold richCompare
  simp only [oneThing_ref]
  refine wpAny_holding (wpAny_bind (wpAny_cRoomFor room.units0 ?_))
  rw [cmpInfo_NotEq]
  dsimp only
  refine wpAny_bind (J1.type.here (wpAny_bind (J2.type.here ?_)))
  rw [show (Value.ref cA != Value.ref cA) = false from by simp]
  simp only [Bool.false_eq_true, if_false]
  refine wpAny_bind (wpAny_pure ?_)
  simp only [Bool.false_eq_true, if_false]
  refine wpAny_bind (wpAny_mono one (fun r s2 z => ?_) fun _ _ z => z)
  obtain ⟨c, H2, rfl, I2, q2⟩ := z
  exact wpAny_pure ⟨.bl c, H2, I2, rfl, q2⟩
end
section
variable {C : Ctx} {m ma mb mc : Mode} {O : List Nat} {e a b c : Expr} {es : List Expr} {den da db dc : Rho → Res D} {pos p p2 apos : Pos} {dr : Rho → Res (List D)} {x : Str}
structure EqOk (P : Program) (w : World) (K : PySem.W.Frag) (mg : Str → Option Value) (base : Heap) (Θ : Th) (k : Nat) (f : List D → Res D) : Prop where
  ex : ∃ (g : Addr) (fd : FuncData), PySem.W.findIn K (.ref Θ.bk) "__eq__" = some (some (.ref g)) ∧ PySem.W.isFn K (.ref g) = true ∧ Binds K fd ["self", "other"] [] ∧ FnOk P w K mg base (L2.CX P w) k g fd ["self", "other"] (spD Θ mg false 2 f)
  ne : PySem.W.findIn K (.ref Θ.bk) "__ne__" = some (some (.builtin "object.__ne__"))
  mr : PySem.W.mroIn K Θ.bk (.type "object") = some true
def fBk (g : Bool → Bool) (f : List D → Res D) (x y : D) : Res D := match x, y with
  | .book b, .book c => (match f [.book b, .book c] with
    | .ok (.bl k) => .ok (.bl (g k))
    | _ => .bad)
  | _, _ => .bad
theorem od_bk {f : List D → Res D} {g : Bool → Bool} : OpD C .e .e .e O (fBk g f) (rBk C.Θ.bk (spD C.Θ C.X.mg false 2 f) g) := by
  intro B H0 ρ σ Hs H d1 d2 v1 v2 Q nh s p1 p2 q
  cases d1 with
  | book b1 => cases d2 with
    | book b2 =>
      have p1 : Den _ _ _ _ := p1
      have p2 : Den _ _ _ _ := p2
      have p1' := p1
      have p2' := p2
      cases p1 with
      | @book a1 dx fs _ e1 _ _ => cases p2 with
        | @book a2 dy gs _ e2 _ _ =>
          refine ⟨a1, a2, dx, dy, fs, gs, rfl, rfl, hid_sub _ _ e1, hid_sub _ _ e2, Hd B σ O, [.book b1, .book b2], s.bexHd, rfl, .cons p1' (.cons p2' .nil), ?_⟩
          have q : Aft C.Θ C.X.mg C.W .e B H0 O ρ σ Hs H (match f [.book b1, .book b2] with | .ok (.bl k) => .ok (.bl (g k)) | _ => .bad) Q := q
          cases ef : f [.book b1, .book b2] with
          | bad => rw [ef] at q; exact q.elim
          | exc c p => rw [ef] at q; exact q.elim
          | ok d =>
            rw [ef] at q
            cases d with
            | bl k =>
              intro v H' x pr
              have pr : Den _ _ _ _ := pr
              cases pr
              exact ⟨k, rfl, q _ H' x (s.up x) (PP.scal fun _ => .bl _)⟩
            | _ => exact q.elim
    | _ => exact q.elim
  | _ => exact q.elim
variable {k : Nat} {f : List D → Res D}
theorem ve_bkEq (F : EqOk C.X.prog C.X.w C.X.K C.X.mg C.X.base C.Θ k f) (ha : VM C .e O a da) (hb : VM C .e O b db) (hk : k ≤ C.lv) : VM C .e O (.Compare a [.Eq] [b] pos) (dBin (fBk id f) da db) := by
  obtain ⟨g, fd, h1, h2, h3, h4⟩ := F.ex
  exact ve_cmp (op_bkEq h4 h3 pass_no (C.room.mono hk) h1 h2) od_bk ha hb
theorem ve_bkNe (F : EqOk C.X.prog C.X.w C.X.K C.X.mg C.X.base C.Θ k f) (ha : VM C .e O a da) (hb : VM C .e O b db) (hk : k + 1 ≤ C.lv) : VM C .e O (.Compare a [.NotEq] [b] pos) (dBin (fBk not f) da db) := by
  obtain ⟨g, fd, h1, h2, h3, h4⟩ := F.ex
  exact ve_cmp (op_bkNe h4 h3 pass_no (C.room.mono hk) h1 h2 F.ne F.mr) od_bk ha hb
theorem vt_bkEq (F : EqOk C.X.prog C.X.w C.X.K C.X.mg C.X.base C.Θ k f) (ha : VM C .e O a da) (hb : VM C .e O b db) (hk : k ≤ C.lv) : VT C O (.Compare a [.Eq] [b] pos) (dTst (dBin (fBk id f) da db)) := by
  obtain ⟨g, fd, h1, h2, h3, h4⟩ := F.ex
  exact vt_cmp (op_bkEq h4 h3 pass_no (C.room.mono hk) h1 h2) od_bk ha hb
theorem vt_bkNe (F : EqOk C.X.prog C.X.w C.X.K C.X.mg C.X.base C.Θ k f) (ha : VM C .e O a da) (hb : VM C .e O b db) (hk : k + 1 ≤ C.lv) : VT C O (.Compare a [.NotEq] [b] pos) (dTst (dBin (fBk not f) da db)) := by
  obtain ⟨g, fd, h1, h2, h3, h4⟩ := F.ex
  exact vt_cmp (op_bkNe h4 h3 pass_no (C.room.mono hk) h1 h2 F.ne F.mr) od_bk ha hb
/-! ### isinstance(x, Book) -/
structure IsB (K : PySem.W.Frag) (mg : Str → Option Value) (bk : Addr) : Prop where
  cl : Cls K bk
  cls : PySem.W.findIn K (.ref bk) "__class__" = some (some (.builtin "object.__class__"))
  get : PySem.W.specialIn K (.builtin "object.__class__") "__get__" = some (some (.builtin "getset_descriptor.__get__"))
  takes : PySem.W.takesIn K (.builtin "object.__class__") = some true
  mr : PySem.W.mroIn K bk (.type "object") = some true
  at_ : mg "Book" = some (.ref bk)
  isi : mg "isinstance" = none
def fIsBk : D → Res D
  | .book _ => .ok (.bl true)
  | _ => .bad
theorem ve_isBk {py : Pos} (T : IsB C.X.K C.X.mg C.Θ.bk) (ha : VM C .e O a da) (hgy : Gl C.X "Book" := by rfl) (hg : Gl C.X "isinstance" := by rfl) (hs2 : starEach (.Name "Book" py :: []) C.X.env = (false, eval (.Name "Book" py) C.X.env) :: starEach [] C.X.env := by rfl)
    (hs : starEach (a :: [.Name "Book" py]) C.X.env = (false, eval a C.X.env) :: starEach [.Name "Book" py] C.X.env := by rfl) (hpl : (backTo pos (starEach [.Name "Book" py] C.X.env)).any (·.1) = false := by rfl) :
    VM C .e O (.Call (.Name "isinstance" p) [a, .Name "Book" py] [] pos) (dUn fIsBk da) :=
  PE.wk (pe_callB call_isi hg T.isi (by decide +kernel) (pa_cons ha (pa_cons (pe_glob (v := .ref C.Θ.bk) hgy T.at_ rfl) pa_nil hs2) hs) (by decide) (by decide) hs hpl) fun σ H Q ⟨B, H0, ρ, s, q⟩ => rd_bind nh_refl s q fun d v H' x s' p q => by
    cases d with
    | book bk =>
      have p : Den _ _ _ _ := p
      cases p with
      | @book A dx fs _ e1 _ _ =>
        have e1' := hid_sub _ _ e1
        exact ⟨.ref A, .ref C.Θ.bk, .ref C.Θ.bk, .ref C.Θ.bk, true, rfl, .own _, .base (.ins e1' T.cl T.cls T.get T.takes T.mr), (by unfold PySem.W.kitOne; simp), Aft.val s' q (PP.scal fun _ => .bl _)⟩
    | _ => exact q.elim
end
end Dn

namespace Dn
open PySem PySem.Spec L2
open PyProof.Rows hiding St
section
variable {P : Program} {w : World} {K : PySem.W.Frag} {mg : Str → Option Value} {base : Heap} {Θ : Th}
theorem meth_ok {x qual : Str} {st : Stmt} {g : Addr} {fd : FuncData} {N ps : List Str} {k : Nat} {fr : Bool} {den : Rho → Out} {O' : List Nat} (hΘ : Θ.K = K) (F : Fun K x qual st g fd) (S : FnScope N ps (defScope st))
    (body : ∀ (cdv : Value) (A : Around) (outer : List Env) (s : Shared) (H : Hp) (E : XK) (hr : Room k (A.deeper (envOfC qual (defScope st) s.heap.objs.size g cdv))),
      VSs (mkC (P := P) (w := w) (K := K) (mg := mg) (base := base) Θ hΘ fr k N S.nd qual (defScope st) g cdv A outer s H E hr) [] [] O' (defBody st) den) :
    FnOk P w K mg base (L2.CX P w) (k + 1) g fd ps (spD Θ mg fr ps.length (runD fr den N.length)) := by
  refine F.okX S (fun vs H Q E ⟨B, ds, _, hn, hs, _⟩ => by rw [hs.len]; exact hn) fun cdv A outer s H vs Q E hr ⟨B, ds, hB, hn, hs, q⟩ => ⟨_, body cdv A outer s H E hr, B, H, _, Stt.init (n := ps.length) hB hs N, ?_⟩
  unfold runD at q
  generalize den (ds.map some ++ List.replicate (N.length - ds.length) none) = r at q ⊢
  cases r with
  | bad => exact q.elim
  | ct ρ' => exact q.elim
  | rt d => exact fun v H' x p => q v H' x p
  | exc c p ρ' => exact fun cls dd σ' H' s' _ e => q cls dd H' s'.ext e
  | nx ρ' =>
    cases fr with
    | true => exact q.elim
    | false => exact fun σ' H' s' _ => q .non H' s'.ext .non
/-- the law itself: a list of ints is handed in, True comes out -/
def spLaw (K : PySem.W.Frag) : Sp := fun vs H Q _ => ∃ (a : Addr) (ns : List Int), vs = [.ref a] ∧ SqL K H a (ns.map V.int) ∧ ns.length ≤ 63 ∧ ∀ H', Q (.bl true) H'
theorem law_ok {k : Nat} {f : List D → Res D} {fa : Addr} (hΘ : Θ.K = K) (F : FOk P w K mg base Θ "law" k false 1 f) (hg : mg "law" = some (.ref fa)) (hf : ∀ ns : List Int, ns.length ≤ 63 → f [.scr ns] = .ok (.bl true)) :
    ∃ fd : FuncData, ∃ ps : List Str, ps.length = 1 ∧ Binds K fd ps [] ∧ FnOk P w K mg base (L2.CX P w) k fa fd ps (spLaw K) := by
  obtain ⟨g, fd, ps, h1, h2, h3, h4, h5⟩ := F.ex
  rw [hg] at h1
  cases h1
  refine ⟨fd, ps, h4, h3, h5.imp fun vs H Q E ⟨a, ns, e, hs, hl, q⟩ => ⟨fun _ => False, [.scr ns], fun _ z => z.elim, rfl, ?_, ?_⟩⟩
  · rw [e]
    refine .cons (.scr ?_) .nil
    rw [hide_noP, hΘ]
    exact hs
  · rw [hf ns hl]
    intro v H' x pr
    have pr : Den _ _ _ _ := pr
    cases pr
    exact q H'
end
end Dn
namespace Dn
open PySem PySem.Spec L2
open PyProof.Rows hiding St
section
variable {C : Ctx} {O Oc : List Nat} {a b : Expr} {da db : Rho → Res D} {pos : Pos} {x y : Str} {i j : Nat}
/-- a, b = x, [..]: the second is owned -/
def dParF (i j : Nat) (da db : Rho → Res D) : Rho → Out := onD da fun u => onD db fun v ρ => if i < ρ.length ∧ j < ρ.length then .nx ((ρ.set i (some u)).set j (some v)) else .bad
theorem vs_parF {px py pt : Pos} {kt k2 pt2} (ha : VM C .e O a da) (hb : VM C .f O b db) (hO : i ∉ O := by decide) (hij : i ≠ j := by decide) (hi : C.X.N[i]? = some x := by rfl) (hj : C.X.N[j]? = some y := by rfl) (hx : C.X.env.scope.names.lookup x = some .local := by rfl) (hy : C.X.env.scope.names.lookup y = some .local := by rfl)
    (hw : swappedStores [.Tuple [.Name x px, .Name y py] kt pt] (.Tuple [a, b] k2 pt2) C.X.env = pure (some [x, y]) := by rfl) (hs : swapsWithSole [.Tuple [.Name x px, .Name y py] kt pt] (.Tuple [a, b] k2 pt2) pos.line C.X.env = pure false := by rfl)
    (hs1 : starEach (a :: [b]) C.X.env = (false, eval a C.X.env) :: starEach [b] C.X.env := by rfl) (hs2 : starEach (b :: []) C.X.env = (false, eval b C.X.env) :: starEach [] C.X.env := by rfl) :
    VS C Oc O (j :: ofN O j) (.Assign [.Tuple [.Name x px, .Name y py] kt pt] (.Tuple [a, b] k2 pt2) pos) (dParF i j da db) :=
  PS.wk (ps_par C.calm C.nd hi hj hij hx hy (pa_cons ha (pa_cons hb pa_nil hs2) hs1) hw hs) fun Dd σ H ⟨B, H0, ρ, s, q⟩ => rdS_on s q fun d v H1 x1 s1 p1 q _ => rdS_on s1 q fun d2 v2 H2 x2 s2 p2 _ q => by
    have p1 : Den C.Θ (hid B σ O H1) v d := p1
    obtain ⟨A, rfl, nA, nh, ow⟩ := p2
    split at q
    · rename_i hz
      obtain ⟨z1, z2⟩ := hz
      have e1 : Hd B (σ.set i (some v)) O = Hd B σ O := Hd_same fun k hk => List.getElem?_set_ne (fun z => hO (by rw [z]; exact hk))
      have t1 := s1.setE (i := i) (s1.ilt z1) p1
      rw [ofN_no hO] at t1
      have hidE : ∀ K, hid B (σ.set i (some v)) O K = hid B σ O K := fun K => by unfold hid; rw [e1]
      have t2 := t1.setF (i := j) (d := d2) (a := A) (H' := H2) (t1.ilt (by rw [List.length_set]; exact z2)) (by rw [e1]; exact x2) nA (by rw [e1]; exact nh) (by rw [hidE]; exact ow)
      refine ⟨v, .ref A, rfl, q _ _ t2 ?_⟩
      have w1 := vis_setF (B := B) (σ := σ.set i (some v)) (O := O) (i := j) (H := H1) (H' := H2) (Θ := C.Θ) (a := A) (d := d2) (t1.ilt (by rw [List.length_set]; exact z2)) (by rw [e1]; exact x2) nA ow
      rw [hidE] at w1
      exact w1
    · exact q.elim
end
end Dn
namespace Dn
open PySem PySem.Spec L2
open PyProof.Rows hiding St
section
variable {C : Ctx} {O : List Nat} {e : Expr} {es : List Expr} {dr : Rho → Res (List D)} {pos p : Pos} {x : Str}
theorem vc_call {k n : Nat} {f : List D → Res D} (F : FOk C.X.prog C.X.w C.X.K C.X.mg C.X.base C.Θ x k false n f) (ha : VL C O (e :: es) dr) (hk : k ≤ C.lv) (hg : Gl C.X x := by rfl)
    (hdb : (x == ("__debug__" : Str)) = false := by decide) (he : starEach (e :: es) C.X.env = (false, eval e C.X.env) :: starEach es C.X.env := by rfl) (hpl : (backTo pos (starEach es C.X.env)).any (·.1) = false := by rfl) :
    VM C .e O (.Call (.Name x p) (e :: es) [] pos) (dCall n f dr) := ve_call F ha hk hg hdb he hpl
theorem vf_call {k n : Nat} {f : List D → Res D} (F : FOk C.X.prog C.X.w C.X.K C.X.mg C.X.base C.Θ x k true n f) (ha : VL C O (e :: es) dr) (hk : k ≤ C.lv) (hg : Gl C.X x := by rfl)
    (hdb : (x == ("__debug__" : Str)) = false := by decide) (he : starEach (e :: es) C.X.env = (false, eval e C.X.env) :: starEach es C.X.env := by rfl) (hpl : (backTo pos (starEach es C.X.env)).any (·.1) = false := by rfl) :
    VM C .f O (.Call (.Name x p) (e :: es) [] pos) (dCall n f dr) := ve_call F ha hk hg hdb he hpl
theorem vc_call0 {k : Nat} {f : List D → Res D} (F : FOk C.X.prog C.X.w C.X.K C.X.mg C.X.base C.Θ x k false 0 f) (hk : k ≤ C.lv) (hg : Gl C.X x := by rfl) (hdb : (x == ("__debug__" : Str)) = false := by decide) :
    VM C .e O (.Call (.Name x p) [] [] pos) (dCall0 f) := ve_call0 F hk hg hdb
theorem vf_call0 {k : Nat} {f : List D → Res D} (F : FOk C.X.prog C.X.w C.X.K C.X.mg C.X.base C.Θ x k true 0 f) (hk : k ≤ C.lv) (hg : Gl C.X x := by rfl) (hdb : (x == ("__debug__" : Str)) = false := by decide) :
    VM C .f O (.Call (.Name x p) [] [] pos) (dCall0 f) := ve_call0 F hk hg hdb
end
end Dn
namespace Dn
open PySem PySem.Spec L2
open PyProof.Rows hiding St
section
variable {C : Ctx} {O : List Nat} {pos p : Pos} {x : Str}
theorem vc_gint {i : Int} (hm : ∃ t : Tok, C.X.mg x = some (.int i t)) (hg : Gl C.X x := by rfl) (hd : (x == ("__debug__" : Str)) = false := by decide) : VM C .e O (.Name x pos) (dC (.int i)) := by
  obtain ⟨t, hm⟩ := hm
  exact ve_gint hm hg hd
theorem vc_gstr {i : Str} (hm : ∃ t : Tok, C.X.mg x = some (.str i t)) (hg : Gl C.X x := by rfl) (hd : (x == ("__debug__" : Str)) = false := by decide) : VM C .e O (.Name x pos) (dC (.str i)) := by
  obtain ⟨t, hm⟩ := hm
  exact ve_gstr hm hg hd
end
end Dn
namespace Dn
open PySem PySem.Spec L2
open PyProof.Rows hiding St
theorem law_imp {P : Program} {w : World} {K : PySem.W.Frag} {mg : Str → Option Value} {base : Heap} {Θ : Th} {k : Nat} {f : List D → Res D} {fa : Addr} {fd : FuncData} {ps : List Str} (hΘ : Θ.K = K) (F : FnOk P w K mg base (L2.CX P w) k fa fd ps (spD Θ mg false 1 f)) (hf : ∀ ns : List Int, ns.length ≤ 63 → f [.scr ns] = .ok (.bl true)) :
    FnOk P w K mg base (L2.CX P w) k fa fd ps (spLaw K) := F.imp fun vs H Q E ⟨a, ns, e, hs, hl, q⟩ => by
  refine ⟨fun _ => False, [.scr ns], fun _ z => z.elim, rfl, ?_, ?_⟩
  · rw [e]
    refine .cons (.scr ?_) .nil
    rw [hide_noP, hΘ]
    exact hs
  · rw [hf ns hl]
    intro v H' x pr
    have pr : Den _ _ _ _ := pr
    cases pr
    exact q H'
end Dn

namespace Dn
open PySem PySem.Spec L2
open PyProof.Rows hiding St
def natsOf : List D → Option (List Nat)
  | [] => some []
  | .int i :: ds => if 0 ≤ i then (natsOf ds).map (i.toNat :: ·) else none
  | _ :: _ => none
def triosOf : List D → Option (List (Nat × Nat × Nat))
  | [] => some []
  | .tup [.int p, .int q, .int r] :: ds => if 0 ≤ p ∧ 0 ≤ q ∧ 0 ≤ r then (triosOf ds).map ((p.toNat, q.toNat, r.toNat) :: ·) else none
  | _ :: _ => none
def bookOf : D → D → Option Bk
  | .tup bs, .tup ts => match natsOf bs, triosOf ts with
    | some b, some t => some ⟨b, t⟩
    | _, _ => none
  | _, _ => none
def backs17 : List (List Nat) := [[0], [0, 1], [1, 0], [0, 1, 2], [1, 0, 2], [2, 1, 0], [0, 2, 1], [0, 1, 2, 3], [1, 0, 2, 3], [2, 1, 0, 3], [3, 1, 2, 0], [0, 2, 1, 3], [0, 3, 2, 1], [0, 1, 3, 2], [1, 0, 3, 2], [2, 3, 0, 1], [3, 2, 1, 0]]
def goodBk (b : Bk) : Bool := backs17.contains b.back && b.bar.all (fun t => decide (t.1 < b.back.length) && decide (t.2.1 < b.back.length) && decide (t.2.2 < b.back.length) && decide (formN b.back t = t)) && decide (b.bar.Pairwise fun s t => lt3 s t = true) && decide (b.bar.length ≤ 64)
end Dn

namespace Dn
open PySem PySem.Spec L2
open PyProof.Rows hiding St
/-! ### plain: deep values compared, for tables -/
mutual
def beqD : D → D → Bool
  | .non, .non => true
  | .bl a, .bl b => a == b
  | .int a, .int b => decide (a = b)
  | .str a, .str b => decide (a = b)
  | .tup a, .tup b => beqDs a b
  | .lst a, .lst b => beqDs a b
  | .book a, .book b => decide (a = b)
  | _, _ => false
def beqDs : List D → List D → Bool
  | [], [] => true
  | a :: as, b :: bs => beqD a b && beqDs as bs
  | _, _ => false
end
mutual
theorem beqD_eq : ∀ {a b : D}, beqD a b = true → a = b
  | .non, b, h => by cases b <;> first | rfl | (simp [beqD] at h)
  | .bl x, b, h => by cases b <;> simp_all [beqD]
  | .int x, b, h => by cases b <;> simp_all [beqD]
  | .str x, b, h => by cases b <;> simp_all [beqD]
  | .tup x, b, h => by
    cases b with
    | tup y => rw [beqDs_eq (a := x) (b := y) (by simpa [beqD] using h)]
    | _ => simp [beqD] at h
  | .lst x, b, h => by
    cases b with
    | lst y => rw [beqDs_eq (a := x) (b := y) (by simpa [beqD] using h)]
    | _ => simp [beqD] at h
  | .book x, b, h => by cases b <;> simp_all [beqD]
  | .dk x, b, h => by cases b <;> simp [beqD] at h
  | .dt x, b, h => by cases b <;> simp [beqD] at h
  | .lets x, b, h => by cases b <;> simp [beqD] at h
  | .scr x, b, h => by cases b <;> simp [beqD] at h
  | .obj x, b, h => by cases b <;> simp [beqD] at h
theorem beqDs_eq : ∀ {a b : List D}, beqDs a b = true → a = b
  | [], [], _ => rfl
  | [], _ :: _, h => by simp [beqDs] at h
  | _ :: _, [], h => by simp [beqDs] at h
  | x :: xs, y :: ys, h => by
    simp only [beqDs, Bool.and_eq_true] at h
    rw [beqD_eq h.1, beqDs_eq h.2]
end
def beqR : Res D → Res D → Bool
  | .ok a, .ok b => beqD a b
  | _, _ => false
theorem beqR_eq {a b : Res D} (h : beqR a b = true) : a = b := by
  cases a <;> cases b <;> simp [beqR] at h
  rw [beqD_eq h]
end Dn

namespace Dn
open PySem PySem.Spec L2
open PyProof.Rows hiding St
/-! ### plain: simple data -/
mutual
def simD : D → Bool
  | .non => true
  | .int _ => true
  | .str _ => true
  | .tup xs => simDs xs
  | .lst xs => simDs xs
  | _ => false
def simDs : List D → Bool
  | [] => true
  | x :: xs => simD x && simDs xs
end
mutual
theorem simD_pl : ∀ {a : D}, simD a = true → pl a = true
  | .non, _ => rfl
  | .int _, _ => rfl
  | .str _, _ => rfl
  | .tup x, h => by simpa [pl] using simDs_pl (a := x) (by simpa [simD] using h)
  | .lst x, h => by simpa [pl] using simDs_pl (a := x) (by simpa [simD] using h)
  | .bl _, h => by simp [simD] at h
  | .dk x, h => by simp [simD] at h
  | .dt x, h => by simp [simD] at h
  | .book x, h => by simp [simD] at h
  | .lets x, h => by simp [simD] at h
  | .scr x, h => by simp [simD] at h
  | .obj x, h => by simp [simD] at h
theorem simDs_pl : ∀ {a : List D}, simDs a = true → pls a = true
  | [], _ => rfl
  | x :: xs, h => by
    simp only [simDs, Bool.and_eq_true] at h
    simp only [pls, Bool.and_eq_true]
    exact ⟨simD_pl h.1, simDs_pl h.2⟩
end
mutual
theorem eqv_sim : ∀ {a b : D}, simD a = true → simD b = true → PyData.eqv (toP a) (toP b) = beqD a b
  | .non, b, _, hb => by cases b <;> simp_all [simD, toP, PyData.eqv, beqD]
  | .int x, b, _, hb => by cases b <;> simp_all [simD, toP, PyData.eqv, beqD] <;> rfl
  | .str x, b, _, hb => by
    cases b <;> simp_all [simD, toP, PyData.eqv, beqD]
    rename_i y
    by_cases e : x = y
    · subst e; simp
    · simp [e]
  | .tup x, b, ha, hb => by
    cases b with
    | tup y => simpa [toP, PyData.eqv, beqD] using eqv_sims (a := x) (b := y) (by simpa [simD] using ha) (by simpa [simD] using hb)
    | _ => simp_all [simD, toP, PyData.eqv, beqD]
  | .lst x, b, ha, hb => by
    cases b with
    | lst y => simpa [toP, PyData.eqv, beqD] using eqv_sims (a := x) (b := y) (by simpa [simD] using ha) (by simpa [simD] using hb)
    | _ => simp_all [simD, toP, PyData.eqv, beqD]
  | .bl _, _, h, _ => by simp [simD] at h
  | .dk x, _, h, _ => by simp [simD] at h
  | .dt x, _, h, _ => by simp [simD] at h
  | .book x, _, h, _ => by simp [simD] at h
  | .lets x, _, h, _ => by simp [simD] at h
  | .scr x, _, h, _ => by simp [simD] at h
  | .obj x, _, h, _ => by simp [simD] at h
theorem eqv_sims : ∀ {a b : List D}, simDs a = true → simDs b = true → PyData.eqvAll (toPs a) (toPs b) = beqDs a b
  | [], [], _, _ => by simp [toPs, PyData.eqvAll, beqDs]
  | [], _ :: _, _, _ => by simp [toPs, PyData.eqvAll, beqDs]
  | _ :: _, [], _, _ => by simp [toPs, PyData.eqvAll, beqDs]
  | x :: xs, y :: ys, ha, hb => by
    simp only [simDs, Bool.and_eq_true] at ha hb
    simp only [toPs, PyData.eqvAll, beqDs]
    rw [eqv_sim ha.1 hb.1, eqv_sims ha.2 hb.2]
end
mutual
theorem beqD_refl : ∀ {a : D}, simD a = true → beqD a a = true
  | .non, _ => rfl
  | .int _, _ => by simp [beqD]
  | .str _, _ => by simp [beqD]
  | .tup x, h => by simpa [beqD] using beqDs_refl (a := x) (by simpa [simD] using h)
  | .lst x, h => by simpa [beqD] using beqDs_refl (a := x) (by simpa [simD] using h)
  | .bl _, h => by simp [simD] at h
  | .dk x, h => by simp [simD] at h
  | .dt x, h => by simp [simD] at h
  | .book x, h => by simp [simD] at h
  | .lets x, h => by simp [simD] at h
  | .scr x, h => by simp [simD] at h
  | .obj x, h => by simp [simD] at h
theorem beqDs_refl : ∀ {a : List D}, simDs a = true → beqDs a a = true
  | [], _ => rfl
  | x :: xs, h => by
    simp only [simDs, Bool.and_eq_true] at h
    simp only [beqDs, Bool.and_eq_true]
    exact ⟨beqD_refl h.1, beqDs_refl h.2⟩
end
theorem beqD_dec {a b : D} (h : simD a = true) [Decidable (a = b)] : beqD a b = decide (a = b) := by
  by_cases e : a = b
  · subst e; simp [beqD_refl h]
  · simp only [e, decide_false]
    cases q : beqD a b with
    | false => rfl
    | true => exact absurd (beqD_eq q) e
theorem fEq_sim {a b : D} (ha : simD a = true) (hb : simD b = true) (hd : dep a ≤ 60) : fEq a b = .ok (.bl (beqD a b)) := by
  unfold fEq
  rw [if_pos ⟨simD_pl ha, simD_pl hb, by omega⟩, eqv_sim ha hb]
theorem fNe_sim {a b : D} (ha : simD a = true) (hb : simD b = true) (hd : dep a ≤ 60) : fNe a b = .ok (.bl (!beqD a b)) := by
  unfold fNe
  rw [if_pos ⟨simD_pl ha, simD_pl hb, by omega⟩, eqv_sim ha hb]
@[simp] theorem fEq_int (i j : Int) : fEq (.int i) (.int j) = .ok (.bl (decide (i = j))) := by rw [fEq_sim rfl rfl (by simp [dep])]; rfl
@[simp] theorem fNe_int (i j : Int) : fNe (.int i) (.int j) = .ok (.bl (!decide (i = j))) := by rw [fNe_sim rfl rfl (by simp [dep])]; rfl
@[simp] theorem fEq_str (i j : Str) : fEq (.str i) (.str j) = .ok (.bl (decide (i = j))) := by rw [fEq_sim rfl rfl (by simp [dep])]; rfl
@[simp] theorem fNe_str (i j : Str) : fNe (.str i) (.str j) = .ok (.bl (!decide (i = j))) := by rw [fNe_sim rfl rfl (by simp [dep])]; rfl
theorem fEq_bl (i j : Bool) : fEq (.bl i) (.bl j) = .ok (.bl (i == j)) := by
  unfold fEq
  rw [if_pos ⟨rfl, rfl, by simp [dep]⟩]
  simp [toP, PyData.eqv]
theorem fNe_bl (i j : Bool) : fNe (.bl i) (.bl j) = .ok (.bl (!(i == j))) := by
  unfold fNe
  rw [if_pos ⟨rfl, rfl, by simp [dep]⟩]
  simp [toP, PyData.eqv]
theorem toPs_any {xs : List D} {x : D} (hx : simD x = true) (h : simDs xs = true) : ((toPs xs).any fun y => PyData.eqv y (toP x)) = xs.any fun y => beqD y x := by
  induction xs with
  | nil => simp [toPs]
  | cons y ys ih =>
    simp only [simDs, Bool.and_eq_true] at h
    simp only [toPs, List.any_cons]
    rw [eqv_sim h.1 hx, ih h.2]
theorem inD_lst {x : D} {xs : List D} (hx : simD x = true) (h : simDs xs = true) (hd : dep x ≤ 60) : inD x (.lst xs) = .ok (xs.any fun y => beqD y x) := by
  unfold inD
  dsimp only
  rw [if_pos ⟨simD_pl hx, simDs_pl h, by omega⟩, toPs_any hx h]
theorem inD_tup {x : D} {xs : List D} (hx : simD x = true) (h : simDs xs = true) (hd : dep x ≤ 60) : inD x (.tup xs) = .ok (xs.any fun y => beqD y x) := by
  unfold inD
  dsimp only
  rw [if_pos ⟨simD_pl hx, simDs_pl h, by omega⟩, toPs_any hx h]
/-! ### plain: loops -/
theorem loopD_run {g : RhoG} {db : Rho → Out} {I : Nat → Rho → Prop} : ∀ {ds : List D} {n : Nat} {ρ0 : Rho}, I n ρ0 → (∀ i d ρ, ds[i]? = some d → I (n + i) ρ → ∃ ρ1, g d ρ = some ρ1 ∧ ∃ ρ2, (db ρ1 = .nx ρ2 ∨ db ρ1 = .ct ρ2) ∧ I (n + i + 1) ρ2) → ∃ ρ', loopD g db ds ρ0 = .nx ρ' ∧ I (n + ds.length) ρ'
  | [], n, ρ0, h0, _ => ⟨ρ0, rfl, h0⟩
  | d :: ds, n, ρ0, h0, hs => by
    obtain ⟨ρ1, e1, ρ2, e2, h2⟩ := hs 0 d ρ0 rfl h0
    obtain ⟨ρ', e3, h3⟩ := loopD_run (ds := ds) (n := n + 1) (I := I) (g := g) (db := db) h2 fun i d' ρ hi hI => by
      obtain ⟨a, b, c, e, f⟩ := hs (i + 1) d' ρ (by simpa using hi) (by rw [show n + (i + 1) = n + 1 + i by omega]; exact hI)
      exact ⟨a, b, c, e, by rw [show n + 1 + i + 1 = n + (i + 1) + 1 by omega]; exact f⟩
    refine ⟨ρ', ?_, by rw [List.length_cons, show n + (ds.length + 1) = n + 1 + ds.length by omega]; exact h3⟩
    rw [loopD, e1]
    rcases e2 with e2 | e2
    · dsimp only; rw [e2]; exact e3
    · dsimp only; rw [e2]; exact e3
theorem loopD_for {g : RhoG} {db : Rho → Out} (I : Nat → Rho → Prop) {ds : List D} {ρ0 : Rho} (h0 : I 0 ρ0) (hs : ∀ i d ρ, ds[i]? = some d → I i ρ → ∃ ρ1, g d ρ = some ρ1 ∧ ∃ ρ2, (db ρ1 = .nx ρ2 ∨ db ρ1 = .ct ρ2) ∧ I (i + 1) ρ2) : ∃ ρ', loopD g db ds ρ0 = .nx ρ' ∧ I ds.length ρ' := by
  have := loopD_run (I := I) (n := 0) h0 (ds := ds) (g := g) (db := db) (fun i d ρ h1 h2 => by
    rw [Nat.zero_add] at h2 ⊢
    exact hs i d ρ h1 h2)
  rw [Nat.zero_add] at this
  exact this
theorem lcD_map {g : RhoG} {te : Rho → Res D} {ρ : Rho} (F : D → D) : ∀ {ds : List D}, (∀ d ∈ ds, ∃ ρ1, g d ρ = some ρ1 ∧ te ρ1 = .ok (F d)) → lcD g dYes te ρ ds = .ok (ds.map F)
  | [], _ => rfl
  | d :: ds, h => by
    obtain ⟨ρ1, e1, e2⟩ := h d List.mem_cons_self
    rw [lcD, e1]
    show (match te ρ1 with | .ok y => (lcD g dYes te ρ ds).bind fun ys => Res.ok (y :: ys) | _ => .bad) = _
    rw [e2, lcD_map F fun x hx => h x (List.mem_cons_of_mem _ hx)]
    rfl
theorem blsD_map {α : Type} (f : α → Bool) : ∀ l : List α, blsD (l.map fun x => D.bl (f x)) = some (l.map f)
  | [] => rfl
  | x :: l => by simp [blsD, blsD_map f l]
theorem fAll_map {α : Type} (f : α → Bool) (l : List α) : fAll (.lst (l.map fun x => D.bl (f x))) = .ok (.bl (l.all f)) := by
  unfold fAll
  simp only [blsD_map]
  simp [List.all_map, Function.comp_def]
theorem strsD_map {α : Type} (f : α → Str) : ∀ l : List α, strsD (l.map fun x => D.str (f x)) = some (l.map f)
  | [] => rfl
  | x :: l => by simp [strsD, strsD_map f l]
end Dn

namespace Dn
open PySem PySem.Spec L2
open PyProof.Rows hiding St
section
variable {ρ ρ' : Rho} {d1 d2 : Rho → Out} {de da db : Rho → Res D} {d x y z : D} {i j n : Nat} {tc ta tb : Rho → Res Bool} {r : Out} {b : Bool} {dr : Rho → Res (List D)} {ds : List D} {f : List D → Res D} {g : D → D → Res D} {h : D → Res D} {q : Res D} {c : Str} {p : List (Str × D)}
theorem seq_nx (e : d1 ρ = .nx ρ') : dSeq d1 d2 ρ = d2 ρ' := by unfold dSeq; rw [e]
theorem seq_rt (e : d1 ρ = .rt d) : dSeq d1 d2 ρ = .rt d := by unfold dSeq; rw [e]
theorem seq_ct (e : d1 ρ = .ct ρ') : dSeq d1 d2 ρ = .ct ρ' := by unfold dSeq; rw [e]
theorem seq_exc (e : d1 ρ = .exc c p ρ') : dSeq d1 d2 ρ = .exc c p ρ' := by unfold dSeq; rw [e]
theorem set_ok (e : de ρ = .ok d) (hi : i < ρ.length) : dSet i de ρ = .nx (ρ.set i (some d)) := by unfold dSet onD; rw [e]; show (if i < ρ.length then Out.nx (ρ.set i (some d)) else Out.bad) = _; rw [if_pos hi]
theorem ret_ok (e : de ρ = .ok d) : dRet de ρ = .rt d := by unfold dRet onD; rw [e]
theorem ret_exc (e : de ρ = .exc c p) : dRet de ρ = .exc c p ρ := by unfold dRet onD; rw [e]
theorem if_t (e : tc ρ = .ok true) : dIfS tc d1 d2 ρ = d1 ρ := by unfold dIfS; rw [e]
theorem if_f (e : tc ρ = .ok false) : dIfS tc d1 d2 ρ = d2 ρ := by unfold dIfS; rw [e]
theorem if_n (e : tc ρ = .ok false) : dIfS tc d1 dNx ρ = .nx ρ := if_f e
theorem rng2_eq {i j : Int} (e1 : da ρ = .ok (.int i)) (e2 : db ρ = .ok (.int j)) (h : -(2 ^ 62) ≤ i ∧ i < 2 ^ 62 ∧ -(2 ^ 62) ≤ j ∧ j < 2 ^ 62 ∧ j - i ≤ 16777216) : dRng2 da db ρ = .ok (rng i j) := by
  unfold dRng2; rw [e1]; show (db ρ).bind _ = _; rw [e2]; exact if_pos h
theorem rng1_eq {j : Int} (e1 : da ρ = .ok (.int j)) (h : j ≤ 16777216) (h2 : -(2 ^ 62) ≤ j) : dRng1 da ρ = .ok (rng 0 j) := by
  unfold dRng1; rw [e1]; exact (if_pos h).trans (if_pos h2)
theorem andv_t (e : da ρ = .ok (.bl true)) : dAndV da db ρ = db ρ := by unfold dAndV; rw [e]; show (if true = true then db ρ else .ok (.bl false)) = db ρ; exact if_pos rfl
theorem andv_f (e : da ρ = .ok (.bl false)) : dAndV da db ρ = .ok (.bl false) := by unfold dAndV; rw [e]; rfl
theorem call_eq (e : dr ρ = .ok ds) (hn : ds.length = n) : dCall n f dr ρ = f ds := by unfold dCall; rw [e]; show (if ds.length = n then f ds else .bad) = _; rw [if_pos hn]
theorem bin_eq (e1 : da ρ = .ok x) (e2 : db ρ = .ok y) : dBin g da db ρ = g x y := by unfold dBin; rw [e1]; show (db ρ).bind _ = _; rw [e2]; rfl
theorem un_eq (e1 : da ρ = .ok x) : dUn h da ρ = h x := by unfold dUn; rw [e1]; rfl
theorem var_eq (e : ρ[i]? = some (some d)) : dVar i ρ = .ok d := by unfold dVar; rw [e]
theorem cons_eq (e1 : da ρ = .ok x) (e2 : dr ρ = .ok ds) : dCons da dr ρ = .ok (x :: ds) := by unfold dCons; rw [e1]; show (dr ρ).bind _ = _; rw [e2]; rfl
theorem tst_eq (e : da ρ = .ok (.bl b)) : dTst da ρ = .ok b := by unfold dTst; rw [e]; rfl
theorem tru_eq (e : da ρ = .ok d) : dTru da ρ = truD d := by unfold dTru; rw [e]; rfl
theorem not_eq (e : ta ρ = .ok b) : dNotT ta ρ = .ok !b := by unfold dNotT; rw [e]; rfl
theorem or_f (e : ta ρ = .ok false) : dOrT ta tb ρ = tb ρ := by unfold dOrT; rw [e]; rfl
theorem or_t (e : ta ρ = .ok true) : dOrT ta tb ρ = .ok true := by unfold dOrT; rw [e]; rfl
theorem and_f (e : ta ρ = .ok false) : dAndT ta tb ρ = .ok false := by unfold dAndT; rw [e]; rfl
theorem and_t (e : ta ρ = .ok true) : dAndT ta tb ρ = tb ρ := by unfold dAndT; rw [e]; rfl
theorem run_rt {n : Nat} {den : Rho → Out} {fr : Bool} (e : den (ds.map some ++ List.replicate (n - ds.length) none) = .rt d) : runD fr den n ds = .ok d := by unfold runD; rw [e]; rfl
theorem run_exc {n : Nat} {den : Rho → Out} {fr : Bool} (e : den (ds.map some ++ List.replicate (n - ds.length) none) = .exc c p ρ') : runD fr den n ds = .exc c p := by unfold runD; rw [e]; rfl
theorem for_eq {di : Rho → Res (List D)} {gg : RhoG} {dbd : Rho → Out} (e : di ρ = .ok ds) : dFor di gg dbd ρ = loopD gg dbd ds ρ := by unfold dFor onL; rw [e]
theorem asg_ok {gg : RhoG} (e : de ρ = .ok d) (e2 : gg d ρ = some ρ') : dAsg de gg ρ = .nx ρ' := by unfold dAsg onD; rw [e]; dsimp only; rw [e2]
theorem app_ok {xs : List D} (e1 : ρ[i]? = some (some (.lst xs))) (e2 : de ρ = .ok d) (hl : xs.length < 16777216) : dUpd i fApp de ρ = .nx (ρ.set i (some (.lst (xs ++ [d])))) := by
  unfold dUpd
  have a : dVar i ρ = .ok (.lst xs) := var_eq e1
  have : isLst i ρ = true := by unfold isLst; rw [a]
  rw [if_pos this]
  unfold onD
  rw [e2]
  dsimp only
  unfold updK
  rw [a]
  dsimp only [fApp]
  simp [hl, fApp]
end
/-! ### loops, step by step -/
def OkStep (P : Rho → Prop) : Out → Prop
  | .nx ρ => P ρ
  | .ct ρ => P ρ
  | _ => False
theorem OkStep.of {P : Rho → Prop} {o r : Out} (e : o = r) (h : OkStep P r) : OkStep P o := e ▸ h
theorem loop_for {g : RhoG} {db : Rho → Out} (I : Nat → Rho → Prop) {ds : List D} {ρ0 : Rho} (h0 : I 0 ρ0) (hs : ∀ i d ρ, ds[i]? = some d → I i ρ → ∃ ρ1, g d ρ = some ρ1 ∧ OkStep (I (i + 1)) (db ρ1)) : ∃ ρ', loopD g db ds ρ0 = .nx ρ' ∧ I ds.length ρ' :=
  loopD_for I h0 fun i d ρ h1 h2 => by
    obtain ⟨ρ1, e1, e2⟩ := hs i d ρ h1 h2
    refine ⟨ρ1, e1, ?_⟩
    cases e : db ρ1 with
    | nx ρ2 => rw [e] at e2; exact ⟨ρ2, .inl rfl, e2⟩
    | ct ρ2 => rw [e] at e2; exact ⟨ρ2, .inr rfl, e2⟩
    | rt d => rw [e] at e2; exact e2.elim
    | exc c p ρ => rw [e] at e2; exact e2.elim
    | bad => rw [e] at e2; exact e2.elim
theorem rng_get {n : Nat} {i : Nat} {d : D} (h : (rng 0 n)[i]? = some d) : d = .int i ∧ i < n := by
  obtain ⟨h1, h2⟩ := List.getElem?_eq_some_iff.mp h
  simp [rng] at h1 h2
  exact ⟨h2.symm, h1⟩
end Dn

namespace Dn
open PySem PySem.Spec L2
open PyProof.Rows hiding St
open SX (S)
/-! ### plain: texts by their signs -/
theorem joinL_flat (a : List Nat) : ∀ (w : List Nat) (l : List (List Nat)), TL.joinL a (w :: l) = w ++ l.flatMap fun x => a ++ x
  | w, [] => by simp [TL.joinL]
  | w, x :: l => by
    have := joinL_flat a x l
    simp only [List.flatMap_cons]
    rw [← List.append_assoc, List.append_assoc, List.append_assoc]
    show w ++ (a ++ TL.joinL a (x :: l)) = _
    rw [this]
theorem joinL_nil : ∀ l : List (List Nat), TL.joinL [] l = l.flatten
  | [] => rfl
  | [x] => by simp [TL.joinL]
  | x :: y :: l => by
    show x ++ ([] ++ TL.joinL [] (y :: l)) = _
    rw [joinL_nil (y :: l)]
    simp
theorem joinL_end (a : List Nat) : ∀ l : List (List Nat), TL.joinL a (l ++ [[]]) = l.flatMap fun x => x ++ a
  | [] => by simp [TL.joinL]
  | x :: l => by
    have := joinL_end a l
    cases l with
    | nil => simp [TL.joinL]
    | cons y l =>
      show x ++ (a ++ TL.joinL a (y :: l ++ [[]])) = _
      rw [this]
      simp
/-- a sign of a figure -/
def dgL (n : Nat) : List Nat := [48 + n]
def lineL (w : List Nat) (ns : List Nat) : List Nat := w ++ ns.flatMap fun n => 32 :: dgL n
theorem fStr_dg : ∀ n : Nat, n < 10 → fStr (.int n) = .ok (.str (S (dgL n))) := by
  have : ((List.range 10).all fun n => beqR (fStr (.int n)) (.ok (.str (S (dgL n))))) = true := by decide +kernel
  intro n hn
  exact beqR_eq (List.all_eq_true.mp this n (List.mem_range.mpr hn))
theorem fInt_dg : ∀ n : Nat, n < 10 → fInt (.str (S (dgL n))) = .ok (.int n) := by
  have : ((List.range 10).all fun n => beqR (fInt (.str (S (dgL n)))) (.ok (.int n))) = true := by decide +kernel
  intro n hn
  exact beqR_eq (List.all_eq_true.mp this n (List.mem_range.mpr hn))
theorem join_line (w : List Nat) (ns : List Nat) : Txt.join (S [32]) (S w :: ns.map fun n => S (dgL n)) = S (lineL w ns) := by
  have e : (S w :: ns.map fun n => S (dgL n)) = (w :: ns.map dgL).map S := by simp
  rw [e, SX.join_S, joinL_flat]
  simp [lineL, List.flatMap_map]
theorem line_clean {w ns : List Nat} {c : Nat} (hw : c ∉ w) (hc : c < 32 ) : c ∉ lineL w ns := by
  unfold lineL
  intro h
  rcases List.mem_append.mp h with h | h
  · exact hw h
  · obtain ⟨n, _, h⟩ := List.mem_flatMap.mp h
    simp [dgL] at h
    omega
theorem split_line {w ns : List Nat} (hw : 32 ∉ w) : Txt.split (S (lineL w ns)) (S [32]) = S w :: ns.map fun n => S (dgL n) := by
  rw [SX.split_S (by simp) (by decide)]
  have e : lineL w ns = TL.joinL [32] (w :: ns.map dgL) := by
    rw [joinL_flat]
    simp [lineL, List.flatMap_map]
  rw [e, SX.spl_join (by simp)]
  · simp
  · intro p hp
    rcases List.mem_cons.mp hp with rfl | hp
    · exact hw
    · obtain ⟨n, _, rfl⟩ := List.mem_map.mp hp
      simp [dgL]
      omega
theorem split_rows {ls : List (List Nat)} (h : ∀ l ∈ ls, 10 ∉ l) : Txt.split (S (ls.flatMap fun x => x ++ [10])) (S [10]) = ls.map S ++ [S []] := by
  rw [SX.split_S (by simp) (by decide), ← joinL_end, SX.spl_join (by simp)]
  · simp
  · intro p hp
    rcases List.mem_append.mp hp with hp | hp
    · exact h p hp
    · simp at hp
      subst hp
      simp
theorem S_len (l : List Nat) : (S l).length = l.length := SX.S_len l
theorem atI_nat {α : Type} {xs : List α} {i : Nat} (h : i < xs.length) : L2.atI xs (i : Int) = some xs[i] := by
  unfold L2.atI L2.ixN
  rw [if_pos (by omega), if_pos (by omega)]
  simp [h]
theorem lineL_len (w ns : List Nat) : (lineL w ns).length = w.length + 2 * ns.length := by
  unfold lineL
  induction ns with
  | nil => simp
  | cons n ns ih =>
    simp only [List.flatMap_cons, List.length_append, List.length_cons, dgL, List.length_nil] at ih ⊢
    omega
end Dn

namespace K87
open PySem L2 Dn
open PyProof.Rows hiding St
abbrev top (i : Nat) : Stmt := PySem.Challenge.pw_wishmet_k87_book_text.main.body.getD i (.Pass ⟨0, 0, 0, 0⟩)
abbrev s_is_whole : Stmt := top 1
abbrev s_is_below : Stmt := top 2
abbrev s_are_below : Stmt := top 3
abbrev s_all_rows : Stmt := top 4
abbrev s_line_of : Stmt := top 10
abbrev s_book_text : Stmt := top 11
abbrev s_orders_of : Stmt := top 14
abbrev s_is_back : Stmt := top 15
abbrev s_are_barred : Stmt := top 16
abbrev s_numbers_of : Stmt := top 20
abbrev s_lines_of : Stmt := top 21
abbrev s_read_book : Stmt := top 22
abbrev s__law_says : Stmt := top 24
abbrev s__law_cell : Stmt := top 25
abbrev s__law_numbers : Stmt := top 26
abbrev s__law_is_number : Stmt := top 27
abbrev s__law_is_row : Stmt := top 28
abbrev s__law_backs : Stmt := top 29
abbrev s__law_tellings : Stmt := top 30
abbrev s__law_form : Stmt := top 31
abbrev s__law_forms : Stmt := top 32
abbrev s__law_any_book : Stmt := top 33
abbrev s__law_text : Stmt := top 34
abbrev s_law : Stmt := top 35
abbrev s_Book : Stmt := inClass (top 17) 0
abbrev s_BookEq : Stmt := inClass (top 17) 1
structure Txt (K : PySem.W.Frag) (mg : Str → Option Value) (bk : Addr) : Prop where
  len : mg "len" = none
  abs : mg "abs" = none
  range : mg "range" = none
  int_ : mg "int" = none
  min_ : mg "min" = none
  sorted : mg "sorted" = none
  tuple_ : mg "tuple" = none
  str_ : mg "str" = none
  isinstance : mg "isinstance" = none
  bool_ : mg "bool" = none
  all_ : mg "all" = none
  g_MOST_KINDS : ∃ t, mg "MOST_KINDS" = some (.int 4 t)
  g_DIGITS : ∃ t, mg "DIGITS" = some (.str "0123456789" t)
  bf : BFacts K bk
  isB : IsB K mg bk
section
variable {P : Program} {w : World} {K : PySem.W.Frag} {mg : Str → Option Value} {base : Heap} {Θ : Th}
theorem sc__law_cell : FnScope ["script", "k"] ["script", "k"] (defScope s__law_cell) := ⟨rfl, rfl, rfl, by decide +kernel, rfl, by decide +kernel, by decide +kernel⟩
def b__law_cell : Rho → Out := (dSeq (dIfS (dTst (dBin fLt (dVar 1) (dUn fLen (dVar 0)))) (dSeq (dRet (dBin fIx (dVar 0) (dVar 1))) dNx) dNx) (dSeq (dRet (dC (.int 0))) dNx))
def m__law_cell : List D → Res D := runD false b__law_cell 2
theorem ok__law_cell {g : Addr} {fd : FuncData} (hΘ : Θ.K = K) (T : Txt K mg Θ.bk)  (F : Fun K "_law_cell" "_law_cell" s__law_cell g fd) (hg : mg "_law_cell" = some (.ref g)) (hb : Binds K fd ["script", "k"] []) : FOk P w K mg base Θ "_law_cell" 1 false 2 m__law_cell := by
  cases hΘ
  exact def_ok rfl F hg hb sc__law_cell (fun cdv A outer s H E hr =>
    (vss_cons (vs_if (O' := []) (vt_lt (ve_var (i := 1)) (ve_len T.len (ve_var (i := 0))))
      (vss_cons (vs_ret (ve_ix (ve_var (i := 0)) (ve_var (i := 1))))
      (vss_nil (O := []) (O' := [])))
      (vss_nil (O := []) (O' := [])))
      (vss_cons (vs_ret ve_int)
      (vss_nil (O := []) (O' := [])))))
theorem sc__law_numbers : FnScope ["script", "at", "many", "cell", "great", "numbers", "k"] ["script", "at", "many"] (defScope s__law_numbers) := ⟨rfl, rfl, rfl, by decide +kernel, rfl, by decide +kernel, by decide +kernel⟩
def l1__law_numbers : Rho → Out := (dSeq (dIfS (dAndT (dTru (dVar 4)) (dTst (dBin fEq (dVar 3) (dC (.int 0))))) (dSeq (dSet 4 (dC (.bl false))) (dSeq (dSet 3 (dBin fAdd (dUn fAbs (dCall 2 m__law_cell (dCons (dVar 0) (dCons (dBin fAdd (dVar 1) (dC (.int 1))) dNil)))) (dVar 6))) dNx)) dNx) (dSeq (dIfS (dTru (dVar 4)) (dSeq (dUpd 5 fApp (dBin fMod (dUn fInt (dVar 3)) (dC (.int 840)))) (dSeq (dSet 3 (dBin fDiv (dVar 3) (dC (.int 840)))) dNx)) (dSeq (dSet 3 (dBin fMod (dUn fInt (dBin fAdd (dBin fAdd (dBin fMul (dVar 3) (dC (.int 48271))) (dBin fMul (dC (.int 7)) (dVar 6))) (dC (.int 11)))) (dC (.int 2147483647)))) (dSeq (dUpd 5 fApp (dBin fDiv (dVar 3) (dC (.int 13)))) dNx))) dNx))
def b__law_numbers : Rho → Out := (dSeq (dSet 3 (dUn fAbs (dCall 2 m__law_cell (dCons (dVar 0) (dCons (dVar 1) dNil))))) (dSeq (dSet 4 (dBin fGe (dVar 3) (dBin fPow (dC (.int 10)) (dC (.int 18))))) (dSeq (dSet 5 (dLst dNil)) (dSeq (dFor (dRng1 (dVar 2)) (gN 6) l1__law_numbers) (dSeq (dRet (dVar 5)) dNx)))))
def m__law_numbers : List D → Res D := runD false b__law_numbers 7
theorem ok__law_numbers {g : Addr} {fd : FuncData} (hΘ : Θ.K = K) (T : Txt K mg Θ.bk) (h__law_cell : FOk P w K mg base Θ "_law_cell" 1 false 2 m__law_cell) (F : Fun K "_law_numbers" "_law_numbers" s__law_numbers g fd) (hg : mg "_law_numbers" = some (.ref g)) (hb : Binds K fd ["script", "at", "many"] []) : FOk P w K mg base Θ "_law_numbers" 2 false 3 m__law_numbers := by
  cases hΘ
  exact def_ok rfl F hg hb sc__law_numbers (fun cdv A outer s H E hr =>
    (vss_cons (vs_set (i := 3) (ve_abs T.abs (vc_call h__law_cell (vl_cons (ve_var (i := 0)) (vl_cons (ve_var (i := 1)) vl_nil)) (Nat.le_of_ble_eq_true rfl))))
      (vss_cons (vs_set (i := 4) (ve_ge (ve_var (i := 3)) (ve_pow ve_int ve_int)))
      (vss_cons (vs_setF (i := 5) (vf_lst vl_nil))
      (vss_cons (vs_for (vi_range1 T.range (ve_var (i := 2))) (vg_name (i := 6))
      (vss_cons (vs_if (O' := [5]) (vt_bool (vw_and (vt_tru (ve_var (i := 4))) (vw_and1 (vt_eq (ve_var (i := 3)) ve_int))))
      (vss_cons (vs_set (i := 4) ve_bl)
      (vss_cons (vs_set (i := 3) (ve_add (ve_abs T.abs (vc_call h__law_cell (vl_cons (ve_var (i := 0)) (vl_cons (ve_add (ve_var (i := 1)) ve_int) vl_nil)) (Nat.le_of_ble_eq_true rfl))) (ve_var (i := 6))))
      (vss_nil (O := [5]) (O' := [5]))))
      (vss_nil (O := [5]) (O' := [5])))
      (vss_cons (vs_if (O' := [5]) (vt_tru (ve_var (i := 4)))
      (vss_cons (vs_append (i := 5) (ve_mod (ve_toInt T.int_ (ve_var (i := 3))) ve_int))
      (vss_cons (vs_set (i := 3) (ve_div (ve_var (i := 3)) ve_int))
      (vss_nil (O := [5]) (O' := [5]))))
      (vss_cons (vs_set (i := 3) (ve_mod (ve_toInt T.int_ (ve_add (ve_add (ve_mul (ve_var (i := 3)) ve_int) (ve_mul ve_int (ve_var (i := 6)))) ve_int)) ve_int))
      (vss_cons (vs_append (i := 5) (ve_div (ve_var (i := 3)) ve_int))
      (vss_nil (O := [5]) (O' := [5])))))
      (vss_nil (O := [5]) (O' := [5])))))
      (vss_cons (vs_wk (O1 := []) (vs_ret (ve_var (i := 5))))
      (vss_nil (O := []) (O' := []))))))))
theorem sc__law_tellings : FnScope ["back", "p", "q", "r", "told"] ["back", "p", "q", "r"] (defScope s__law_tellings) := ⟨rfl, rfl, rfl, by decide +kernel, rfl, by decide +kernel, by decide +kernel⟩
def b__law_tellings : Rho → Out := (dSeq (dSet 4 (dLst (dCons (dTup (dCons (dVar 1) (dCons (dVar 2) (dCons (dVar 3) dNil)))) (dCons (dTup (dCons (dBin fIx (dVar 0) (dVar 1)) (dCons (dVar 3) (dCons (dVar 2) dNil)))) (dCons (dTup (dCons (dVar 3) (dCons (dBin fIx (dVar 0) (dVar 2)) (dCons (dVar 1) dNil)))) (dCons (dTup (dCons (dBin fIx (dVar 0) (dVar 2)) (dCons (dBin fIx (dVar 0) (dVar 1)) (dCons (dBin fIx (dVar 0) (dVar 3)) dNil)))) (dCons (dTup (dCons (dVar 2) (dCons (dBin fIx (dVar 0) (dVar 3)) (dCons (dBin fIx (dVar 0) (dVar 1)) dNil)))) dNil))))))) (dSeq (dRet (dBin fAdd (dVar 4) (dLst (dCons (dTup (dCons (dBin fIx (dVar 0) (dVar 3)) (dCons (dVar 1) (dCons (dBin fIx (dVar 0) (dVar 2)) dNil)))) dNil)))) dNx))
def m__law_tellings : List D → Res D := runD false b__law_tellings 5
theorem ok__law_tellings {g : Addr} {fd : FuncData} (hΘ : Θ.K = K) (T : Txt K mg Θ.bk)  (F : Fun K "_law_tellings" "_law_tellings" s__law_tellings g fd) (hg : mg "_law_tellings" = some (.ref g)) (hb : Binds K fd ["back", "p", "q", "r"] []) : FOk P w K mg base Θ "_law_tellings" 1 false 4 m__law_tellings := by
  cases hΘ
  exact def_ok rfl F hg hb sc__law_tellings (fun cdv A outer s H E hr =>
    (vss_cons (vs_set (i := 4) (VM.fe (vf_lst (vl_cons (ve_tup (vl_cons (ve_var (i := 1)) (vl_cons (ve_var (i := 2)) (vl_cons (ve_var (i := 3)) vl_nil)))) (vl_cons (ve_tup (vl_cons (ve_ix (ve_var (i := 0)) (ve_var (i := 1))) (vl_cons (ve_var (i := 3)) (vl_cons (ve_var (i := 2)) vl_nil)))) (vl_cons (ve_tup (vl_cons (ve_var (i := 3)) (vl_cons (ve_ix (ve_var (i := 0)) (ve_var (i := 2))) (vl_cons (ve_var (i := 1)) vl_nil)))) (vl_cons (ve_tup (vl_cons (ve_ix (ve_var (i := 0)) (ve_var (i := 2))) (vl_cons (ve_ix (ve_var (i := 0)) (ve_var (i := 1))) (vl_cons (ve_ix (ve_var (i := 0)) (ve_var (i := 3))) vl_nil)))) (vl_cons (ve_tup (vl_cons (ve_var (i := 2)) (vl_cons (ve_ix (ve_var (i := 0)) (ve_var (i := 3))) (vl_cons (ve_ix (ve_var (i := 0)) (ve_var (i := 1))) vl_nil)))) vl_nil))))))))
      (vss_cons (vs_ret (ve_add (ve_var (i := 4)) (vf_lst (vl_cons (ve_tup (vl_cons (ve_ix (ve_var (i := 0)) (ve_var (i := 3))) (vl_cons (ve_var (i := 1)) (vl_cons (ve_ix (ve_var (i := 0)) (ve_var (i := 2))) vl_nil)))) vl_nil))))
      (vss_nil (O := []) (O' := [])))))
theorem sc__law_form : FnScope ["back", "p", "q", "r"] ["back", "p", "q", "r"] (defScope s__law_form) := ⟨rfl, rfl, rfl, by decide +kernel, rfl, by decide +kernel, by decide +kernel⟩
def b__law_form : Rho → Out := (dSeq (dRet (dUn fMin (dCall 4 m__law_tellings (dCons (dVar 0) (dCons (dVar 1) (dCons (dVar 2) (dCons (dVar 3) dNil))))))) dNx)
def m__law_form : List D → Res D := runD false b__law_form 4
theorem ok__law_form {g : Addr} {fd : FuncData} (hΘ : Θ.K = K) (T : Txt K mg Θ.bk) (h__law_tellings : FOk P w K mg base Θ "_law_tellings" 1 false 4 m__law_tellings) (F : Fun K "_law_form" "_law_form" s__law_form g fd) (hg : mg "_law_form" = some (.ref g)) (hb : Binds K fd ["back", "p", "q", "r"] []) : FOk P w K mg base Θ "_law_form" 2 false 4 m__law_form := by
  cases hΘ
  exact def_ok rfl F hg hb sc__law_form (fun cdv A outer s H E hr =>
    (vss_cons (vs_ret (ve_min T.min_ (vc_call h__law_tellings (vl_cons (ve_var (i := 0)) (vl_cons (ve_var (i := 1)) (vl_cons (ve_var (i := 2)) (vl_cons (ve_var (i := 3)) vl_nil)))) (Nat.le_of_ble_eq_true rfl))))
      (vss_nil (O := []) (O' := []))))
theorem sc__law_forms : FnScope ["back", "forms", "kinds", "number", "form"] ["back"] (defScope s__law_forms) := ⟨rfl, rfl, rfl, by decide +kernel, rfl, by decide +kernel, by decide +kernel⟩
def l1__law_forms : Rho → Out := (dSeq (dSet 4 (dCall 4 m__law_form (dCons (dVar 0) (dCons (dBin fDiv (dVar 3) (dBin fMul (dVar 2) (dVar 2))) (dCons (dBin fMod (dBin fDiv (dVar 3) (dVar 2)) (dVar 2)) (dCons (dBin fMod (dVar 3) (dVar 2)) dNil)))))) (dSeq (dIfS (dTst (dBin fNotIn (dVar 4) (dVar 1))) (dSeq (dUpd 1 fApp (dVar 4)) dNx) dNx) dNx))
def b__law_forms : Rho → Out := (dSeq (dSet 1 (dLst dNil)) (dSeq (dSet 2 (dUn fLen (dVar 0))) (dSeq (dFor (dRng1 (dBin fMul (dBin fMul (dVar 2) (dVar 2)) (dVar 2))) (gN 3) l1__law_forms) (dSeq (dRet (dUn fSorted (dVar 1))) dNx))))
def m__law_forms : List D → Res D := runD false b__law_forms 5
theorem ok__law_forms {g : Addr} {fd : FuncData} (hΘ : Θ.K = K) (T : Txt K mg Θ.bk) (h__law_form : FOk P w K mg base Θ "_law_form" 2 false 4 m__law_form) (F : Fun K "_law_forms" "_law_forms" s__law_forms g fd) (hg : mg "_law_forms" = some (.ref g)) (hb : Binds K fd ["back"] []) : FOk P w K mg base Θ "_law_forms" 3 false 1 m__law_forms := by
  cases hΘ
  exact def_ok rfl F hg hb sc__law_forms (fun cdv A outer s H E hr =>
    (vss_cons (vs_setF (i := 1) (vf_lst vl_nil))
      (vss_cons (vs_set (i := 2) (ve_len T.len (ve_var (i := 0))))
      (vss_cons (vs_for (vi_range1 T.range (ve_mul (ve_mul (ve_var (i := 2)) (ve_var (i := 2))) (ve_var (i := 2)))) (vg_name (i := 3))
      (vss_cons (vs_set (i := 4) (vc_call h__law_form (vl_cons (ve_var (i := 0)) (vl_cons (ve_div (ve_var (i := 3)) (ve_mul (ve_var (i := 2)) (ve_var (i := 2)))) (vl_cons (ve_mod (ve_div (ve_var (i := 3)) (ve_var (i := 2))) (ve_var (i := 2))) (vl_cons (ve_mod (ve_var (i := 3)) (ve_var (i := 2))) vl_nil)))) (Nat.le_of_ble_eq_true rfl)))
      (vss_cons (vs_if (O' := [1]) (vt_notIn (ve_var (i := 4)) (vb_own (i := 1)))
      (vss_cons (vs_append (i := 1) (ve_var (i := 4)))
      (vss_nil (O := [1]) (O' := [1])))
      (vss_nil (O := [1]) (O' := [1])))
      (vss_nil (O := [1]) (O' := [1])))))
      (vss_cons (vs_ret (VM.fe (vf_sorted T.sorted (vb_own (i := 1)))))
      (vss_nil (O := []) (O' := [])))))))
theorem sc__law_backs : FnScope ["backs"] ([] : List Str) (defScope s__law_backs) := ⟨rfl, rfl, rfl, by decide +kernel, rfl, by decide +kernel, by decide +kernel⟩
def b__law_backs : Rho → Out := (dSeq (dSet 0 (dLst (dCons (dTup (dCons (dC (.int 0)) dNil)) (dCons (dTup (dCons (dC (.int 0)) (dCons (dC (.int 1)) dNil))) (dCons (dTup (dCons (dC (.int 1)) (dCons (dC (.int 0)) dNil))) (dCons (dTup (dCons (dC (.int 0)) (dCons (dC (.int 1)) (dCons (dC (.int 2)) dNil)))) (dCons (dTup (dCons (dC (.int 1)) (dCons (dC (.int 0)) (dCons (dC (.int 2)) dNil)))) (dCons (dTup (dCons (dC (.int 2)) (dCons (dC (.int 1)) (dCons (dC (.int 0)) dNil)))) (dCons (dTup (dCons (dC (.int 0)) (dCons (dC (.int 2)) (dCons (dC (.int 1)) dNil)))) (dCons (dTup (dCons (dC (.int 0)) (dCons (dC (.int 1)) (dCons (dC (.int 2)) (dCons (dC (.int 3)) dNil))))) (dCons (dTup (dCons (dC (.int 1)) (dCons (dC (.int 0)) (dCons (dC (.int 2)) (dCons (dC (.int 3)) dNil))))) dNil))))))))))) (dSeq (dSet 0 (dBin fAdd (dVar 0) (dLst (dCons (dTup (dCons (dC (.int 2)) (dCons (dC (.int 1)) (dCons (dC (.int 0)) (dCons (dC (.int 3)) dNil))))) (dCons (dTup (dCons (dC (.int 3)) (dCons (dC (.int 1)) (dCons (dC (.int 2)) (dCons (dC (.int 0)) dNil))))) (dCons (dTup (dCons (dC (.int 0)) (dCons (dC (.int 2)) (dCons (dC (.int 1)) (dCons (dC (.int 3)) dNil))))) (dCons (dTup (dCons (dC (.int 0)) (dCons (dC (.int 3)) (dCons (dC (.int 2)) (dCons (dC (.int 1)) dNil))))) (dCons (dTup (dCons (dC (.int 0)) (dCons (dC (.int 1)) (dCons (dC (.int 3)) (dCons (dC (.int 2)) dNil))))) (dCons (dTup (dCons (dC (.int 1)) (dCons (dC (.int 0)) (dCons (dC (.int 3)) (dCons (dC (.int 2)) dNil))))) (dCons (dTup (dCons (dC (.int 2)) (dCons (dC (.int 3)) (dCons (dC (.int 0)) (dCons (dC (.int 1)) dNil))))) dNil)))))))))) (dSeq (dRet (dBin fAdd (dVar 0) (dLst (dCons (dTup (dCons (dC (.int 3)) (dCons (dC (.int 2)) (dCons (dC (.int 1)) (dCons (dC (.int 0)) dNil))))) dNil)))) dNx)))
def m__law_backs : List D → Res D := runD false b__law_backs 1
theorem ok__law_backs {g : Addr} {fd : FuncData} (hΘ : Θ.K = K) (T : Txt K mg Θ.bk)  (F : Fun K "_law_backs" "_law_backs" s__law_backs g fd) (hg : mg "_law_backs" = some (.ref g)) (hb : Binds K fd ([] : List Str) []) : FOk P w K mg base Θ "_law_backs" 1 false 0 m__law_backs := by
  cases hΘ
  exact def_ok rfl F hg hb sc__law_backs (fun cdv A outer s H E hr =>
    (vss_cons (vs_set (i := 0) (VM.fe (vf_lst (vl_cons (ve_tup (vl_cons ve_int vl_nil)) (vl_cons (ve_tup (vl_cons ve_int (vl_cons ve_int vl_nil))) (vl_cons (ve_tup (vl_cons ve_int (vl_cons ve_int vl_nil))) (vl_cons (ve_tup (vl_cons ve_int (vl_cons ve_int (vl_cons ve_int vl_nil)))) (vl_cons (ve_tup (vl_cons ve_int (vl_cons ve_int (vl_cons ve_int vl_nil)))) (vl_cons (ve_tup (vl_cons ve_int (vl_cons ve_int (vl_cons ve_int vl_nil)))) (vl_cons (ve_tup (vl_cons ve_int (vl_cons ve_int (vl_cons ve_int vl_nil)))) (vl_cons (ve_tup (vl_cons ve_int (vl_cons ve_int (vl_cons ve_int (vl_cons ve_int vl_nil))))) (vl_cons (ve_tup (vl_cons ve_int (vl_cons ve_int (vl_cons ve_int (vl_cons ve_int vl_nil))))) vl_nil))))))))))))
      (vss_cons (vs_set (i := 0) (ve_add (ve_var (i := 0)) (vf_lst (vl_cons (ve_tup (vl_cons ve_int (vl_cons ve_int (vl_cons ve_int (vl_cons ve_int vl_nil))))) (vl_cons (ve_tup (vl_cons ve_int (vl_cons ve_int (vl_cons ve_int (vl_cons ve_int vl_nil))))) (vl_cons (ve_tup (vl_cons ve_int (vl_cons ve_int (vl_cons ve_int (vl_cons ve_int vl_nil))))) (vl_cons (ve_tup (vl_cons ve_int (vl_cons ve_int (vl_cons ve_int (vl_cons ve_int vl_nil))))) (vl_cons (ve_tup (vl_cons ve_int (vl_cons ve_int (vl_cons ve_int (vl_cons ve_int vl_nil))))) (vl_cons (ve_tup (vl_cons ve_int (vl_cons ve_int (vl_cons ve_int (vl_cons ve_int vl_nil))))) (vl_cons (ve_tup (vl_cons ve_int (vl_cons ve_int (vl_cons ve_int (vl_cons ve_int vl_nil))))) vl_nil))))))))))
      (vss_cons (vs_ret (ve_add (ve_var (i := 0)) (vf_lst (vl_cons (ve_tup (vl_cons ve_int (vl_cons ve_int (vl_cons ve_int (vl_cons ve_int vl_nil))))) vl_nil))))
      (vss_nil (O := []) (O' := []))))))
theorem sc__law_any_book : FnScope ["numbers", "back", "forms", "barred", "k"] ["numbers"] (defScope s__law_any_book) := ⟨rfl, rfl, rfl, by decide +kernel, rfl, by decide +kernel, by decide +kernel⟩
def l1__law_any_book : Rho → Out := (dSeq (dIfS (dTst (dBin fEq (dBin fMod (dBin fDiv (dBin fIx (dVar 0) (dBin fAdd (dC (.int 1)) (dBin fMod (dVar 4) (dBin fSub (dUn fLen (dVar 0)) (dC (.int 1)))))) (dBin fAdd (dC (.int 1)) (dBin fDiv (dVar 4) (dC (.int 7))))) (dC (.int 3))) (dC (.int 1)))) (dSeq (dUpd 3 fApp (dBin fIx (dVar 2) (dVar 4))) dNx) dNx) dNx)
def b__law_any_book : Rho → Out := (dSeq (dSet 1 (dBin fIx (dCall0 m__law_backs) (dBin fMod (dBin fIx (dVar 0) (dC (.int 0))) (dC (.int 17))))) (dSeq (dSet 2 (dCall 1 m__law_forms (dCons (dVar 1) dNil))) (dSeq (dSet 3 (dLst dNil)) (dSeq (dFor (dRng1 (dUn fLen (dVar 2))) (gN 4) l1__law_any_book) (dSeq (dRet (dTup (dCons (dVar 1) (dCons (dUn fTuple (dVar 3)) dNil)))) dNx)))))
def m__law_any_book : List D → Res D := runD false b__law_any_book 5
theorem ok__law_any_book {g : Addr} {fd : FuncData} (hΘ : Θ.K = K) (T : Txt K mg Θ.bk) (h__law_backs : FOk P w K mg base Θ "_law_backs" 1 false 0 m__law_backs) (h__law_forms : FOk P w K mg base Θ "_law_forms" 3 false 1 m__law_forms) (F : Fun K "_law_any_book" "_law_any_book" s__law_any_book g fd) (hg : mg "_law_any_book" = some (.ref g)) (hb : Binds K fd ["numbers"] []) : FOk P w K mg base Θ "_law_any_book" 4 false 1 m__law_any_book := by
  cases hΘ
  exact def_ok rfl F hg hb sc__law_any_book (fun cdv A outer s H E hr =>
    (vss_cons (vs_set (i := 1) (ve_ix (vc_call0 h__law_backs (Nat.le_of_ble_eq_true rfl)) (ve_mod (ve_ix (ve_var (i := 0)) ve_int) ve_int)))
      (vss_cons (vs_set (i := 2) (vc_call h__law_forms (vl_cons (ve_var (i := 1)) vl_nil) (Nat.le_of_ble_eq_true rfl)))
      (vss_cons (vs_setF (i := 3) (vf_lst vl_nil))
      (vss_cons (vs_for (vi_range1 T.range (ve_len T.len (ve_var (i := 2)))) (vg_name (i := 4))
      (vss_cons (vs_if (O' := [3]) (vt_eq (ve_mod (ve_div (ve_ix (ve_var (i := 0)) (ve_add ve_int (ve_mod (ve_var (i := 4)) (ve_sub (ve_len T.len (ve_var (i := 0))) ve_int)))) (ve_add ve_int (ve_div (ve_var (i := 4)) ve_int))) ve_int) ve_int)
      (vss_cons (vs_append (i := 3) (ve_ix (ve_var (i := 2)) (ve_var (i := 4))))
      (vss_nil (O := [3]) (O' := [3])))
      (vss_nil (O := [3]) (O' := [3])))
      (vss_nil (O := [3]) (O' := [3]))))
      (vss_cons (vs_ret (ve_tup (vl_cons (ve_var (i := 1)) (vl_cons (ve_tuple T.tuple_ (vb_own (i := 3))) vl_nil))))
      (vss_nil (O := []) (O' := []))))))))
theorem sc__law_text : FnScope ["back", "barred", "lines", "text", "trio", "words", "kind", "number"] ["back", "barred"] (defScope s__law_text) := ⟨rfl, rfl, rfl, by decide +kernel, rfl, by decide +kernel, by decide +kernel⟩
def c1__law_text : Rho → Res D := (dLc (dWalk (dVar 0)) [6] (gN 6) dYes (dUn fStr (dVar 6)))
def c2__law_text : Rho → Res D := (dLc (dWalk (dVar 4)) [7] (gN 7) dYes (dUn fStr (dVar 7)))
def l1__law_text : Rho → Out := (dSeq (dSet 5 c2__law_text) (dSeq (dSet 3 (dBin fAdd (dBin fAdd (dBin fAdd (dVar 3) (dC (.str "bar "))) (dM1 fJoin (dC (.str " ")) (dVar 5))) (dC (.str "\n")))) dNx))
def b__law_text : Rho → Out := (dSeq (dSet 2 (dBin fAdd (dLst (dCons (dC (.str "kinds")) dNil)) c1__law_text)) (dSeq (dSet 3 (dBin fAdd (dM1 fJoin (dC (.str " ")) (dVar 2)) (dC (.str "\n")))) (dSeq (dFor (dWalk (dVar 1)) (gN 4) l1__law_text) (dSeq (dRet (dVar 3)) dNx))))
def m__law_text : List D → Res D := runD false b__law_text 8
theorem ok__law_text {g : Addr} {fd : FuncData} (hΘ : Θ.K = K) (T : Txt K mg Θ.bk)  (F : Fun K "_law_text" "_law_text" s__law_text g fd) (hg : mg "_law_text" = some (.ref g)) (hb : Binds K fd ["back", "barred"] []) : FOk P w K mg base Θ "_law_text" 1 false 2 m__law_text := by
  cases hΘ
  exact def_ok rfl F hg hb sc__law_text (fun cdv A outer s H E hr =>
    (vss_cons (vs_set (i := 2) (ve_add (vf_lst (vl_cons ve_str vl_nil)) (vf_lc (own := [("kind", 6)]) (vi_seq (ve_var (i := 0))) (blkOk_by (by kernel_rfl)) (fun _ _ _ _ _ => (vg_name (i := 6))) (fun _ _ _ _ _ => vts_nil) (fun _ _ _ _ _ => (ve_toStr T.str_ (ve_var (i := 6)))))))
      (vss_cons (vs_set (i := 3) (ve_add (ve_join ve_str (ve_var (i := 2))) ve_str))
      (vss_cons (vs_for (vi_seq (ve_var (i := 1))) (vg_name (i := 4))
      (vss_cons (vs_setLc (hsw := sw_true rfl rfl rfl (by decide +kernel)) (own := [("number", 7)]) (vi_seq (ve_var (i := 4))) (blkOk_by (by kernel_rfl)) (fun _ _ _ _ _ => (vg_name (i := 7))) (fun _ _ _ _ _ => vts_nil) (fun _ _ _ _ _ => (ve_toStr T.str_ (ve_var (i := 7)))) (i := 5))
      (vss_cons (vs_set (i := 3) (ve_add (ve_add (ve_add (ve_var (i := 3)) ve_str) (ve_join ve_str (vb_own (i := 5)))) ve_str))
      (vss_nil (O := [5]) (O' := [])))))
      (vss_cons (vs_ret (ve_var (i := 3)))
      (vss_nil (O := []) (O' := [])))))))
theorem sc_line_of : FnScope ["word", "numbers", "number"] ["word", "numbers"] (defScope s_line_of) := ⟨rfl, rfl, rfl, by decide +kernel, rfl, by decide +kernel, by decide +kernel⟩
def c1_line_of : Rho → Res D := (dLc (dWalk (dVar 1)) [2] (gN 2) dYes (dUn fStr (dVar 2)))
def b_line_of : Rho → Out := (dSeq (dRet (dBin fAdd (dM1 fJoin (dC (.str " ")) (dLst (dCons (dVar 0) (dStar c1_line_of dNil)))) (dC (.str "\n")))) dNx)
def m_line_of : List D → Res D := runD false b_line_of 3
theorem ok_line_of {g : Addr} {fd : FuncData} (hΘ : Θ.K = K) (T : Txt K mg Θ.bk)  (F : Fun K "line_of" "line_of" s_line_of g fd) (hg : mg "line_of" = some (.ref g)) (hb : Binds K fd ["word", "numbers"] []) : FOk P w K mg base Θ "line_of" 1 false 2 m_line_of := by
  cases hΘ
  exact def_ok rfl F hg hb sc_line_of (fun cdv A outer s H E hr =>
    (vss_cons (vs_ret (ve_add (ve_join ve_str (vf_lst (vl_cons (ve_var (i := 0)) (vl_star (vf_lc (own := [("number", 2)]) (vi_seq (ve_var (i := 1))) (blkOk_by (by kernel_rfl)) (fun _ _ _ _ _ => (vg_name (i := 2))) (fun _ _ _ _ _ => vts_nil) (fun _ _ _ _ _ => (ve_toStr T.str_ (ve_var (i := 2))))) vl_nil)))) ve_str))
      (vss_nil (O := []) (O' := []))))
theorem sc_book_text : FnScope ["book", "trio"] ["book"] (defScope s_book_text) := ⟨rfl, rfl, rfl, by decide +kernel, rfl, by decide +kernel, by decide +kernel⟩
def c1_book_text : Rho → Res D := (dLc (dWalk (dUn f_barred (dVar 0))) [1] (gN 1) dYes (dCall 2 m_line_of (dCons (dC (.str "bar")) (dCons (dVar 1) dNil))))
def b_book_text : Rho → Out := (dSeq (dRet (dBin fAdd (dCall 2 m_line_of (dCons (dC (.str "kinds")) (dCons (dUn f_back (dVar 0)) dNil))) (dM1 fJoin (dC (.str "")) c1_book_text))) dNx)
def m_book_text : List D → Res D := runD false b_book_text 2
theorem ok_book_text {g : Addr} {fd : FuncData} (hΘ : Θ.K = K) (T : Txt K mg Θ.bk) (h_line_of : FOk P w K mg base Θ "line_of" 1 false 2 m_line_of) (F : Fun K "book_text" "book_text" s_book_text g fd) (hg : mg "book_text" = some (.ref g)) (hb : Binds K fd ["book"] []) : FOk P w K mg base Θ "book_text" 2 false 1 m_book_text := by
  cases hΘ
  exact def_ok rfl F hg hb sc_book_text (fun cdv A outer s H E hr =>
    (vss_cons (vs_ret (ve_add (vc_call h_line_of (vl_cons ve_str (vl_cons (ve_bk_back T.bf (ve_var (i := 0))) vl_nil)) (Nat.le_of_ble_eq_true rfl)) (ve_join ve_str (vf_lc (own := [("trio", 1)]) (vi_seq (ve_bk_barred T.bf (ve_var (i := 0)))) (blkOk_by (by kernel_rfl)) (fun _ _ _ _ _ => (vg_name (i := 1))) (fun _ _ _ _ _ => vts_nil) (fun _ _ _ _ _ => (vc_call h_line_of (vl_cons ve_str (vl_cons (ve_var (i := 1)) vl_nil)) (Nat.le_of_ble_eq_true rfl)))))))
      (vss_nil (O := []) (O' := []))))
theorem sc_lines_of : FnScope ["text", "lines", "tail"] ["text"] (defScope s_lines_of) := ⟨rfl, rfl, rfl, by decide +kernel, rfl, by decide +kernel, by decide +kernel⟩
def b_lines_of : Rho → Out := (dSeq (dIfS (dNotT (dTru (dUn (fIsi "str") (dVar 0)))) (dSeq dNo dNx) dNx) (dSeq (dAsgS 2 0 (dM1 fSplit (dVar 0) (dC (.str "\n"))) (gCons (gN 1) (gCons (gN 2) gNil))) (dSeq (dRet (dTup (dCons (dVar 1) (dCons (dVar 2) dNil)))) dNx)))
def m_lines_of : List D → Res D := runD false b_lines_of 3
theorem ok_lines_of {g : Addr} {fd : FuncData} (hΘ : Θ.K = K) (T : Txt K mg Θ.bk)  (F : Fun K "lines_of" "lines_of" s_lines_of g fd) (hg : mg "lines_of" = some (.ref g)) (hb : Binds K fd ["text"] []) : FOk P w K mg base Θ "lines_of" 1 false 1 m_lines_of := by
  cases hΘ
  exact def_ok rfl F hg hb sc_lines_of (fun cdv A outer s H E hr =>
    (vss_cons (vs_if (O' := []) (vt_not (vt_tru (ve_isi (T := "str") T.isinstance T.str_ (ve_var (i := 0)))))
      (vss_cons vs_never
      (vss_nil (O := []) (O' := [])))
      (vss_nil (O := []) (O' := [])))
      (vss_cons (vs_asgS (n := 2) (i := 0) (VM.fe (vf_split (ve_var (i := 0)) ve_str)) (vgs_star (vg_name (i := 1)) (vgs_cons (vg_name (i := 2)) vgs_nil)))
      (vss_cons (vs_ret (ve_tup (vl_cons (ve_var (i := 1)) (vl_cons (ve_var (i := 2)) vl_nil))))
      (vss_nil (O := []) (O' := []))))))
theorem sc_all_rows : FnScope ["many", "bound", "rows", "row", "number"] ["many", "bound"] (defScope s_all_rows) := ⟨rfl, rfl, rfl, by decide +kernel, rfl, by decide +kernel, by decide +kernel⟩
def c1_all_rows : Rho → Res D := (dLc2 (dWalk (dVar 2)) [3, 4] (gN 3) dYes (dRng1 (dVar 1)) [4] (gN 4) dYes (dBin fAdd (dVar 3) (dTup (dCons (dVar 4) dNil))))
def l1_all_rows : Rho → Out := (dSeq (dSet 2 c1_all_rows) dNx)
def b_all_rows : Rho → Out := (dSeq (dSet 2 (dLst (dCons (dTup dNil) dNil))) (dSeq (whD (dTst (dBin fLt (dUn fLen (dBin fIx (dVar 2) (dC (.int 0)))) (dVar 0))) l1_all_rows 1000) (dSeq (dRet (dVar 2)) dNx)))
def m_all_rows : List D → Res D := runD false b_all_rows 5
theorem ok_all_rows {g : Addr} {fd : FuncData} (hΘ : Θ.K = K) (T : Txt K mg Θ.bk)  (F : Fun K "all_rows" "all_rows" s_all_rows g fd) (hg : mg "all_rows" = some (.ref g)) (hb : Binds K fd ["many", "bound"] []) : FOk P w K mg base Θ "all_rows" 1 false 2 m_all_rows := by
  cases hΘ
  exact def_ok rfl F hg hb sc_all_rows (fun cdv A outer s H E hr =>
    (vss_cons (vs_set (i := 2) (VM.fe (vf_lst (vl_cons (ve_tup vl_nil) vl_nil))))
      (vss_cons (vs_while 1000 (vt_lt (ve_len T.len (ve_ix (ve_var (i := 2)) ve_int)) (ve_var (i := 0)))
      (vss_cons (vs_setLc2 (hsw := sw_true rfl rfl rfl (by decide +kernel)) (own := [("row", 3), ("number", 4)]) (vs1 := [4]) (vi_seq (ve_var (i := 2))) (blkOk_by (by kernel_rfl)) (fun _ _ _ _ _ => (vg_name (i := 3))) (fun _ _ _ _ _ => vts_nil) (fun _ _ _ _ _ => (vi_range1 T.range (ve_var (i := 1)))) (fun _ _ _ _ _ => (vg_name (i := 4))) (fun _ _ _ _ _ => vts_nil) (fun _ _ _ _ _ => (ve_add (ve_var (i := 3)) (ve_tup (vl_cons (ve_var (i := 4)) vl_nil)))) (i := 2))
      (vss_nil (O := [2]) (O' := []))))
      (vss_cons (vs_ret (ve_var (i := 2)))
      (vss_nil (O := []) (O' := []))))))
theorem sc_is_whole : FnScope ["thing"] ["thing"] (defScope s_is_whole) := ⟨rfl, rfl, rfl, by decide +kernel, rfl, by decide +kernel, by decide +kernel⟩
def b_is_whole : Rho → Out := (dSeq (dRet (dAndV (dUn (fIsi "int") (dVar 0)) (dNotE (dUn (fIsi "bool") (dVar 0))))) dNx)
def m_is_whole : List D → Res D := runD false b_is_whole 1
theorem ok_is_whole {g : Addr} {fd : FuncData} (hΘ : Θ.K = K) (T : Txt K mg Θ.bk)  (F : Fun K "is_whole" "is_whole" s_is_whole g fd) (hg : mg "is_whole" = some (.ref g)) (hb : Binds K fd ["thing"] []) : FOk P w K mg base Θ "is_whole" 1 false 1 m_is_whole := by
  cases hΘ
  exact def_ok rfl F hg hb sc_is_whole (fun cdv A outer s H E hr =>
    (vss_cons (vs_ret (ve_and (ve_isi (T := "int") T.isinstance T.int_ (ve_var (i := 0))) (ve_one (ve_not (ve_isi (T := "bool") T.isinstance T.bool_ (ve_var (i := 0)))))))
      (vss_nil (O := []) (O' := []))))
theorem sc_is_below : FnScope ["thing", "bound"] ["thing", "bound"] (defScope s_is_below) := ⟨rfl, rfl, rfl, by decide +kernel, rfl, by decide +kernel, by decide +kernel⟩
def b_is_below : Rho → Out := (dSeq (dRet (dAndV (dCall 1 m_is_whole (dCons (dVar 0) dNil)) (dChain fLe fLt (dC (.int 0)) (dVar 0) (dVar 1)))) dNx)
def m_is_below : List D → Res D := runD false b_is_below 2
theorem ok_is_below {g : Addr} {fd : FuncData} (hΘ : Θ.K = K) (T : Txt K mg Θ.bk) (h_is_whole : FOk P w K mg base Θ "is_whole" 1 false 1 m_is_whole) (F : Fun K "is_below" "is_below" s_is_below g fd) (hg : mg "is_below" = some (.ref g)) (hb : Binds K fd ["thing", "bound"] []) : FOk P w K mg base Θ "is_below" 2 false 2 m_is_below := by
  cases hΘ
  exact def_ok rfl F hg hb sc_is_below (fun cdv A outer s H E hr =>
    (vss_cons (vs_ret (ve_and (vc_call h_is_whole (vl_cons (ve_var (i := 0)) vl_nil) (Nat.le_of_ble_eq_true rfl)) (ve_one (ve_chain op_leA op_ltA od_le od_lt ve_int (ve_var (i := 0)) (ve_var (i := 1))))))
      (vss_nil (O := []) (O' := []))))
theorem sc_is_back : FnScope ["thing", "kind"] ["thing"] (defScope s_is_back) := ⟨rfl, rfl, rfl, by decide +kernel, rfl, by decide +kernel, by decide +kernel⟩
def c1_is_back : Rho → Res D := (dLc (dWalk (dVar 0)) [1] (gN 1) dYes (dCall 2 m_is_below (dCons (dVar 1) (dCons (dUn fLen (dVar 0)) dNil))))
def c2_is_back : Rho → Res D := (dLc (dRng1 (dUn fLen (dVar 0))) [1] (gN 1) dYes (dBin fEq (dBin fIx (dVar 0) (dBin fIx (dVar 0) (dVar 1))) (dVar 1)))
def b_is_back : Rho → Out := (dSeq (dIfS (dOrT (dNotT (dTru (dUn (fIsi "tuple") (dVar 0)))) (dNotT (dTst (dChain fLe fLe (dC (.int 1)) (dUn fLen (dVar 0)) (dC (.int 4)))))) (dSeq (dRet (dC (.bl false))) dNx) dNx) (dSeq (dIfS (dNotT (dTru (dUn fAll c1_is_back))) (dSeq (dRet (dC (.bl false))) dNx) dNx) (dSeq (dRet (dUn fAll c2_is_back)) dNx)))
def m_is_back : List D → Res D := runD false b_is_back 2
theorem ok_is_back {g : Addr} {fd : FuncData} (hΘ : Θ.K = K) (T : Txt K mg Θ.bk) (h_is_below : FOk P w K mg base Θ "is_below" 2 false 2 m_is_below) (F : Fun K "is_back" "is_back" s_is_back g fd) (hg : mg "is_back" = some (.ref g)) (hb : Binds K fd ["thing"] []) : FOk P w K mg base Θ "is_back" 3 false 1 m_is_back := by
  cases hΘ
  exact def_ok rfl F hg hb sc_is_back (fun cdv A outer s H E hr =>
    (vss_cons (vs_if (O' := []) (vt_bool (vw_or (vt_not (vt_tru (ve_isi (T := "tuple") T.isinstance T.tuple_ (ve_var (i := 0))))) (vw_or1 (vt_not (vt_chain op_leA op_leA od_le od_le ve_int (ve_len T.len (ve_var (i := 0))) (vc_gint T.g_MOST_KINDS))))))
      (vss_cons (vs_ret ve_bl)
      (vss_nil (O := []) (O' := [])))
      (vss_nil (O := []) (O' := [])))
      (vss_cons (vs_if (O' := []) (vt_not (vt_tru (ve_all T.all_ (vf_lc (own := [("kind", 1)]) (vi_seq (ve_var (i := 0))) (blkOk_by (by kernel_rfl)) (fun _ _ _ _ _ => (vg_name (i := 1))) (fun _ _ _ _ _ => vts_nil) (fun _ _ _ _ _ => (vc_call h_is_below (vl_cons (ve_var (i := 1)) (vl_cons (ve_len T.len (ve_var (i := 0))) vl_nil)) (Nat.le_of_ble_eq_true rfl)))))))
      (vss_cons (vs_ret ve_bl)
      (vss_nil (O := []) (O' := [])))
      (vss_nil (O := []) (O' := [])))
      (vss_cons (vs_ret (ve_all T.all_ (vf_lc (own := [("kind", 1)]) (vi_range1 T.range (ve_len T.len (ve_var (i := 0)))) (blkOk_by (by kernel_rfl)) (fun _ _ _ _ _ => (vg_name (i := 1))) (fun _ _ _ _ _ => vts_nil) (fun _ _ _ _ _ => (ve_eq (ve_ix (ve_var (i := 0)) (ve_ix (ve_var (i := 0)) (ve_var (i := 1)))) (ve_var (i := 1)))))))
      (vss_nil (O := []) (O' := []))))))
theorem sc_are_below : FnScope ["thing", "many", "bound", "number"] ["thing", "many", "bound"] (defScope s_are_below) := ⟨rfl, rfl, rfl, by decide +kernel, rfl, by decide +kernel, by decide +kernel⟩
def c1_are_below : Rho → Res D := (dLc (dWalk (dVar 0)) [3] (gN 3) dYes (dCall 2 m_is_below (dCons (dVar 3) (dCons (dVar 2) dNil))))
def b_are_below : Rho → Out := (dSeq (dIfS (dOrT (dNotT (dTru (dUn (fIsi "tuple") (dVar 0)))) (dTst (dBin fNe (dUn fLen (dVar 0)) (dVar 1)))) (dSeq (dRet (dC (.bl false))) dNx) dNx) (dSeq (dRet (dUn fAll c1_are_below)) dNx))
def m_are_below : List D → Res D := runD false b_are_below 4
theorem ok_are_below {g : Addr} {fd : FuncData} (hΘ : Θ.K = K) (T : Txt K mg Θ.bk) (h_is_below : FOk P w K mg base Θ "is_below" 2 false 2 m_is_below) (F : Fun K "are_below" "are_below" s_are_below g fd) (hg : mg "are_below" = some (.ref g)) (hb : Binds K fd ["thing", "many", "bound"] []) : FOk P w K mg base Θ "are_below" 3 false 3 m_are_below := by
  cases hΘ
  exact def_ok rfl F hg hb sc_are_below (fun cdv A outer s H E hr =>
    (vss_cons (vs_if (O' := []) (vt_bool (vw_or (vt_not (vt_tru (ve_isi (T := "tuple") T.isinstance T.tuple_ (ve_var (i := 0))))) (vw_or1 (vt_ne (ve_len T.len (ve_var (i := 0))) (ve_var (i := 1))))))
      (vss_cons (vs_ret ve_bl)
      (vss_nil (O := []) (O' := [])))
      (vss_nil (O := []) (O' := [])))
      (vss_cons (vs_ret (ve_all T.all_ (vf_lc (own := [("number", 3)]) (vi_seq (ve_var (i := 0))) (blkOk_by (by kernel_rfl)) (fun _ _ _ _ _ => (vg_name (i := 3))) (fun _ _ _ _ _ => vts_nil) (fun _ _ _ _ _ => (vc_call h_is_below (vl_cons (ve_var (i := 3)) (vl_cons (ve_var (i := 2)) vl_nil)) (Nat.le_of_ble_eq_true rfl))))))
      (vss_nil (O := []) (O' := [])))))
theorem sc_orders_of : FnScope ["back", "trio", "p", "q", "r"] ["back", "trio"] (defScope s_orders_of) := ⟨rfl, rfl, rfl, by decide +kernel, rfl, by decide +kernel, by decide +kernel⟩
def b_orders_of : Rho → Out := (dSeq (dAsg (dVar 1) (gT 3 (gCons (gN 2) (gCons (gN 3) (gCons (gN 4) gNil))))) (dSeq (dRet (dLst (dCons (dTup (dCons (dVar 2) (dCons (dVar 3) (dCons (dVar 4) dNil)))) (dCons (dTup (dCons (dBin fIx (dVar 0) (dVar 2)) (dCons (dVar 4) (dCons (dVar 3) dNil)))) (dCons (dTup (dCons (dVar 4) (dCons (dBin fIx (dVar 0) (dVar 3)) (dCons (dVar 2) dNil)))) (dCons (dTup (dCons (dBin fIx (dVar 0) (dVar 3)) (dCons (dBin fIx (dVar 0) (dVar 2)) (dCons (dBin fIx (dVar 0) (dVar 4)) dNil)))) (dCons (dTup (dCons (dVar 3) (dCons (dBin fIx (dVar 0) (dVar 4)) (dCons (dBin fIx (dVar 0) (dVar 2)) dNil)))) (dCons (dTup (dCons (dBin fIx (dVar 0) (dVar 4)) (dCons (dVar 2) (dCons (dBin fIx (dVar 0) (dVar 3)) dNil)))) dNil)))))))) dNx))
def m_orders_of : List D → Res D := runD false b_orders_of 5
theorem ok_orders_of {g : Addr} {fd : FuncData} (hΘ : Θ.K = K) (T : Txt K mg Θ.bk)  (F : Fun K "orders_of" "orders_of" s_orders_of g fd) (hg : mg "orders_of" = some (.ref g)) (hb : Binds K fd ["back", "trio"] []) : FOk P w K mg base Θ "orders_of" 1 false 2 m_orders_of := by
  cases hΘ
  exact def_ok rfl F hg hb sc_orders_of (fun cdv A outer s H E hr =>
    (vss_cons (vs_asg (ve_var (i := 1)) (vg_tup (vgs_cons (vg_name (i := 2)) (vgs_cons (vg_name (i := 3)) (vgs_cons (vg_name (i := 4)) vgs_nil)))))
      (vss_cons (vs_ret (VM.fe (vf_lst (vl_cons (ve_tup (vl_cons (ve_var (i := 2)) (vl_cons (ve_var (i := 3)) (vl_cons (ve_var (i := 4)) vl_nil)))) (vl_cons (ve_tup (vl_cons (ve_ix (ve_var (i := 0)) (ve_var (i := 2))) (vl_cons (ve_var (i := 4)) (vl_cons (ve_var (i := 3)) vl_nil)))) (vl_cons (ve_tup (vl_cons (ve_var (i := 4)) (vl_cons (ve_ix (ve_var (i := 0)) (ve_var (i := 3))) (vl_cons (ve_var (i := 2)) vl_nil)))) (vl_cons (ve_tup (vl_cons (ve_ix (ve_var (i := 0)) (ve_var (i := 3))) (vl_cons (ve_ix (ve_var (i := 0)) (ve_var (i := 2))) (vl_cons (ve_ix (ve_var (i := 0)) (ve_var (i := 4))) vl_nil)))) (vl_cons (ve_tup (vl_cons (ve_var (i := 3)) (vl_cons (ve_ix (ve_var (i := 0)) (ve_var (i := 4))) (vl_cons (ve_ix (ve_var (i := 0)) (ve_var (i := 2))) vl_nil)))) (vl_cons (ve_tup (vl_cons (ve_ix (ve_var (i := 0)) (ve_var (i := 4))) (vl_cons (ve_var (i := 2)) (vl_cons (ve_ix (ve_var (i := 0)) (ve_var (i := 3))) vl_nil)))) vl_nil)))))))))
      (vss_nil (O := []) (O' := [])))))
theorem sc_are_barred : FnScope ["back", "thing", "trio", "at"] ["back", "thing"] (defScope s_are_barred) := ⟨rfl, rfl, rfl, by decide +kernel, rfl, by decide +kernel, by decide +kernel⟩
def c1_are_barred : Rho → Res D := (dLc (dWalk (dVar 1)) [2] (gN 2) dYes (dCall 3 m_are_below (dCons (dVar 2) (dCons (dC (.int 3)) (dCons (dUn fLen (dVar 0)) dNil)))))
def c2_are_barred : Rho → Res D := (dLc (dWalk (dVar 1)) [2] (gN 2) dYes (dBin fEq (dVar 2) (dUn fMin (dCall 2 m_orders_of (dCons (dVar 0) (dCons (dVar 2) dNil))))))
def c3_are_barred : Rho → Res D := (dLc (dRng2 (dC (.int 1)) (dUn fLen (dVar 1))) [3] (gN 3) dYes (dBin fLt (dBin fIx (dVar 1) (dBin fSub (dVar 3) (dC (.int 1)))) (dBin fIx (dVar 1) (dVar 3))))
def b_are_barred : Rho → Out := (dSeq (dIfS (dOrT (dNotT (dTru (dUn (fIsi "tuple") (dVar 1)))) (dNotT (dTru (dUn fAll c1_are_barred)))) (dSeq (dRet (dC (.bl false))) dNx) dNx) (dSeq (dIfS (dNotT (dTru (dUn fAll c2_are_barred))) (dSeq (dRet (dC (.bl false))) dNx) dNx) (dSeq (dRet (dUn fAll c3_are_barred)) dNx)))
def m_are_barred : List D → Res D := runD false b_are_barred 4
theorem ok_are_barred {g : Addr} {fd : FuncData} (hΘ : Θ.K = K) (T : Txt K mg Θ.bk) (h_are_below : FOk P w K mg base Θ "are_below" 3 false 3 m_are_below) (h_orders_of : FOk P w K mg base Θ "orders_of" 1 false 2 m_orders_of) (F : Fun K "are_barred" "are_barred" s_are_barred g fd) (hg : mg "are_barred" = some (.ref g)) (hb : Binds K fd ["back", "thing"] []) : FOk P w K mg base Θ "are_barred" 4 false 2 m_are_barred := by
  cases hΘ
  exact def_ok rfl F hg hb sc_are_barred (fun cdv A outer s H E hr =>
    (vss_cons (vs_if (O' := []) (vt_bool (vw_or (vt_not (vt_tru (ve_isi (T := "tuple") T.isinstance T.tuple_ (ve_var (i := 1))))) (vw_or1 (vt_not (vt_tru (ve_all T.all_ (vf_lc (own := [("trio", 2)]) (vi_seq (ve_var (i := 1))) (blkOk_by (by kernel_rfl)) (fun _ _ _ _ _ => (vg_name (i := 2))) (fun _ _ _ _ _ => vts_nil) (fun _ _ _ _ _ => (vc_call h_are_below (vl_cons (ve_var (i := 2)) (vl_cons ve_int (vl_cons (ve_len T.len (ve_var (i := 0))) vl_nil))) (Nat.le_of_ble_eq_true rfl))))))))))
      (vss_cons (vs_ret ve_bl)
      (vss_nil (O := []) (O' := [])))
      (vss_nil (O := []) (O' := [])))
      (vss_cons (vs_if (O' := []) (vt_not (vt_tru (ve_all T.all_ (vf_lc (own := [("trio", 2)]) (vi_seq (ve_var (i := 1))) (blkOk_by (by kernel_rfl)) (fun _ _ _ _ _ => (vg_name (i := 2))) (fun _ _ _ _ _ => vts_nil) (fun _ _ _ _ _ => (ve_eq (ve_var (i := 2)) (ve_min T.min_ (vc_call h_orders_of (vl_cons (ve_var (i := 0)) (vl_cons (ve_var (i := 2)) vl_nil)) (Nat.le_of_ble_eq_true rfl)))))))))
      (vss_cons (vs_ret ve_bl)
      (vss_nil (O := []) (O' := [])))
      (vss_nil (O := []) (O' := [])))
      (vss_cons (vs_ret (ve_all T.all_ (vf_lc (own := [("at", 3)]) (vi_range2 T.range ve_int (ve_len T.len (ve_var (i := 1)))) (blkOk_by (by kernel_rfl)) (fun _ _ _ _ _ => (vg_name (i := 3))) (fun _ _ _ _ _ => vts_nil) (fun _ _ _ _ _ => (ve_lt (ve_ix (ve_var (i := 1)) (ve_sub (ve_var (i := 3)) ve_int)) (ve_ix (ve_var (i := 1)) (ve_var (i := 3))))))))
      (vss_nil (O := []) (O' := []))))))
theorem sc_Book : FnScope NB ["self", "back", "barred"] (defScope s_Book) := ⟨rfl, rfl, rfl, by decide +kernel, rfl, by decide +kernel, by decide +kernel⟩
def b1_Book : Rho → Out := (dIfS (dNotT (dTru (dCall 1 m_is_back (dCons (dVar 1) dNil)))) (dSeq dNo dNx) dNx)
def b2_Book : Rho → Out := (dIfS (dNotT (dTru (dCall 2 m_are_barred (dCons (dVar 1) (dCons (dVar 2) dNil))))) (dSeq dNo dNx) dNx)
def bk_Book : Rho → Res D := (dUn fLen (dVar 1))
def br_Book : Rho → Res D := (dCall 2 m_all_rows (dCons (dC (.int 3)) (dCons (dUn fLen (dVar 1)) dNil)))
def bt_Book : Rho → Res Bool := (dTst (dBin fNotIn (dUn fMin (dCall 2 m_orders_of (dCons (dVar 1) (dCons (dVar 3) dNil)))) (dVar 2)))
def m_Book : List D → Res D := fun ds => match ds with
  | [x, y] => (match bookOf x y with
    | some b => if goodBk b = true then .ok (.book b) else .bad
    | none => .bad)
  | _ => .bad
theorem ok_Book {g : Addr} {fd : FuncData} (hΘ : Θ.K = K) (T : Txt K mg Θ.bk) (h_is_back : FOk P w K mg base Θ "is_back" 3 false 1 m_is_back) (h_are_barred : FOk P w K mg base Θ "are_barred" 4 false 2 m_are_barred) (h_all_rows : FOk P w K mg base Θ "all_rows" 1 false 2 m_all_rows) (h_orders_of : FOk P w K mg base Θ "orders_of" 1 false 2 m_orders_of) (F : Fun K "__init__" "Book.__init__" s_Book g fd) (sp : BSpec b1_Book b2_Book bk_Book br_Book bt_Book m_Book) : FnOk P w K mg base (L2.CX P w) 5 g fd ["self", "back", "barred"] (spB Θ mg m_Book) := by
  cases hΘ
  exact book_init rfl F T.bf sc_Book sp rfl (by first | exact Or.inl rfl | exact Or.inr (Or.inl rfl) | exact Or.inr (Or.inr rfl)) (by first | exact Or.inl rfl | exact Or.inr (Or.inl rfl) | exact Or.inr (Or.inr rfl)) (by first | exact Or.inl rfl | exact Or.inr (Or.inl rfl) | exact Or.inr (Or.inr rfl)) (by first | exact Or.inl rfl | exact Or.inr (Or.inl rfl) | exact Or.inr (Or.inr rfl)) (by first | exact Or.inl rfl | exact Or.inr rfl) (fun cdv A outer s H E hr =>
    ⟨(vs_if (O' := []) (vt_not (vt_tru (vc_call h_is_back (vl_cons (ve_var (i := 1)) vl_nil) (Nat.le_of_ble_eq_true rfl))))
      (vss_cons vs_never
      (vss_nil (O := []) (O' := [])))
      (vss_nil (O := []) (O' := []))),
    (vs_if (O' := []) (vt_not (vt_tru (vc_call h_are_barred (vl_cons (ve_var (i := 1)) (vl_cons (ve_var (i := 2)) vl_nil)) (Nat.le_of_ble_eq_true rfl))))
      (vss_cons vs_never
      (vss_nil (O := []) (O' := [])))
      (vss_nil (O := []) (O' := []))),
    (ve_len T.len (ve_var (i := 1))),
    (vc_call h_all_rows (vl_cons ve_int (vl_cons (ve_len T.len (ve_var (i := 1))) vl_nil)) (Nat.le_of_ble_eq_true rfl)),
    (vt_notIn (ve_min T.min_ (vc_call h_orders_of (vl_cons (ve_var (i := 1)) (vl_cons (ve_var (i := 3)) vl_nil)) (Nat.le_of_ble_eq_true rfl))) (ve_var (i := 2))), rfl, fun _ => rfl⟩)
theorem sc_numbers_of : FnScope ["line", "word", "first", "words", "told"] ["line", "word"] (defScope s_numbers_of) := ⟨rfl, rfl, rfl, by decide +kernel, rfl, by decide +kernel, by decide +kernel⟩
def c1_numbers_of : Rho → Res D := (dLc (dWalk (dVar 3)) [4] (gN 4) dYes (dAndV (dBin fEq (dUn fLen (dVar 4)) (dC (.int 1))) (dBin fIn (dVar 4) (dC (.str "0123456789")))))
def c2_numbers_of : Rho → Res D := (dLc (dWalk (dVar 3)) [4] (gN 4) dYes (dUn fInt (dVar 4)))
def b_numbers_of : Rho → Out := (dSeq (dAsgS 2 1 (dM1 fSplit (dVar 0) (dC (.str " "))) (gCons (gN 2) (gCons (gN 3) gNil))) (dSeq (dIfS (dOrT (dTst (dBin fNe (dVar 2) (dVar 1))) (dNotT (dTru (dUn fAll c1_numbers_of)))) (dSeq (dRet (dC .non)) dNx) dNx) (dSeq (dRet (dUn fTuple c2_numbers_of)) dNx)))
def m_numbers_of : List D → Res D := runD false b_numbers_of 5
theorem ok_numbers_of {g : Addr} {fd : FuncData} (hΘ : Θ.K = K) (T : Txt K mg Θ.bk)  (F : Fun K "numbers_of" "numbers_of" s_numbers_of g fd) (hg : mg "numbers_of" = some (.ref g)) (hb : Binds K fd ["line", "word"] []) : FOk P w K mg base Θ "numbers_of" 1 false 2 m_numbers_of := by
  cases hΘ
  exact def_ok rfl F hg hb sc_numbers_of (fun cdv A outer s H E hr =>
    (vss_cons (vs_asgS (n := 2) (i := 1) (VM.fe (vf_split (ve_var (i := 0)) ve_str)) (vgs_cons (vg_name (i := 2)) (vgs_star (vg_name (i := 3)) vgs_nil)))
      (vss_cons (vs_if (O' := []) (vt_bool (vw_or (vt_ne (ve_var (i := 2)) (ve_var (i := 1))) (vw_or1 (vt_not (vt_tru (ve_all T.all_ (vf_lc (own := [("told", 4)]) (vi_seq (ve_var (i := 3))) (blkOk_by (by kernel_rfl)) (fun _ _ _ _ _ => (vg_name (i := 4))) (fun _ _ _ _ _ => vts_nil) (fun _ _ _ _ _ => (ve_and (ve_eq (ve_len T.len (ve_var (i := 4))) ve_int) (ve_one (ve_in (ve_var (i := 4)) (vc_gstr T.g_DIGITS))))))))))))
      (vss_cons (vs_ret ve_non)
      (vss_nil (O := []) (O' := [])))
      (vss_nil (O := []) (O' := [])))
      (vss_cons (vs_ret (ve_tuple T.tuple_ (vf_lc (own := [("told", 4)]) (vi_seq (ve_var (i := 3))) (blkOk_by (by kernel_rfl)) (fun _ _ _ _ _ => (vg_name (i := 4))) (fun _ _ _ _ _ => vts_nil) (fun _ _ _ _ _ => (ve_toInt T.int_ (ve_var (i := 4)))))))
      (vss_nil (O := []) (O' := []))))))
theorem sc_read_book : FnScope ["text", "lines", "tail", "back", "barred", "at", "numbers"] ["text"] (defScope s_read_book) := ⟨rfl, rfl, rfl, by decide +kernel, rfl, by decide +kernel, by decide +kernel⟩
def l1_read_book : Rho → Out := (dSeq (dSet 6 (dCall 2 m_numbers_of (dCons (dBin fIx (dVar 1) (dVar 5)) (dCons (dIf (dTst (dBin fEq (dVar 5) (dC (.int 0)))) (dC (.str "kinds")) (dC (.str "bar"))) dNil)))) (dSeq (dIfS (dOrT (dTst (dBin fIsN (dVar 6) (dC .non))) (dOrT (dAndT (dTst (dBin fEq (dVar 5) (dC (.int 0)))) (dNotT (dTru (dVar 6)))) (dAndT (dTst (dBin fGt (dVar 5) (dC (.int 0)))) (dTst (dBin fNe (dUn fLen (dVar 6)) (dC (.int 3))))))) (dSeq dNo dNx) dNx) (dSeq (dIfS (dTst (dBin fEq (dVar 5) (dC (.int 0)))) (dSeq (dSet 3 (dVar 6)) dNx) (dSeq (dUpd 4 fApp (dVar 6)) dNx)) dNx)))
def b_read_book : Rho → Out := (dSeq (dAsg (dCall 1 m_lines_of (dCons (dVar 0) dNil)) (gT 2 (gCons (gN 1) (gCons (gN 2) gNil)))) (dSeq (dParF 3 4 (dC .non) (dLst dNil)) (dSeq (dFor (dRng1 (dUn fLen (dVar 1))) (gN 5) l1_read_book) (dSeq (dIfS (dOrT (dTst (dBin fNe (dVar 2) (dC (.str "")))) (dNotT (dTru (dVar 1)))) (dSeq dNo dNx) dNx) (dSeq (dRet (dCall 2 m_Book (dCons (dVar 3) (dCons (dUn fTuple (dVar 4)) dNil)))) dNx)))))
def m_read_book : List D → Res D := runD false b_read_book 7
theorem ok_read_book {g : Addr} {fd : FuncData} (hΘ : Θ.K = K) (T : Txt K mg Θ.bk) (h_lines_of : FOk P w K mg base Θ "lines_of" 1 false 1 m_lines_of) (h_numbers_of : FOk P w K mg base Θ "numbers_of" 1 false 2 m_numbers_of) (h_Book : BOk P w K mg base Θ 5 m_Book) (F : Fun K "read_book" "read_book" s_read_book g fd) (hg : mg "read_book" = some (.ref g)) (hb : Binds K fd ["text"] []) : FOk P w K mg base Θ "read_book" 7 false 1 m_read_book := by
  cases hΘ
  exact def_ok rfl F hg hb sc_read_book (fun cdv A outer s H E hr =>
    (vss_cons (vs_asg (vc_call h_lines_of (vl_cons (ve_var (i := 0)) vl_nil) (Nat.le_of_ble_eq_true rfl)) (vg_tup (vgs_cons (vg_name (i := 1)) (vgs_cons (vg_name (i := 2)) vgs_nil))))
      (vss_cons (vs_parF (i := 3) (j := 4) ve_non (vf_lst vl_nil))
      (vss_cons (vs_for (vi_range1 T.range (ve_len T.len (ve_var (i := 1)))) (vg_name (i := 5))
      (vss_cons (vs_set (i := 6) (vc_call h_numbers_of (vl_cons (ve_ix (ve_var (i := 1)) (ve_var (i := 5))) (vl_cons (ve_if (vt_eq (ve_var (i := 5)) ve_int) ve_str ve_str) vl_nil)) (Nat.le_of_ble_eq_true rfl)))
      (vss_cons (vs_if (O' := [4]) (vt_bool (vw_or (vt_isN (ve_var (i := 6)) ve_non) (vw_or (vt_bool (vw_and (vt_eq (ve_var (i := 5)) ve_int) (vw_and1 (vt_not (vt_tru (ve_var (i := 6))))))) (vw_or1 (vt_bool (vw_and (vt_gt (ve_var (i := 5)) ve_int) (vw_and1 (vt_ne (ve_len T.len (ve_var (i := 6))) ve_int))))))))
      (vss_cons vs_never
      (vss_nil (O := [4]) (O' := [4])))
      (vss_nil (O := [4]) (O' := [4])))
      (vss_cons (vs_if (O' := [4]) (vt_eq (ve_var (i := 5)) ve_int)
      (vss_cons (vs_set (i := 3) (ve_var (i := 6)))
      (vss_nil (O := [4]) (O' := [4])))
      (vss_cons (vs_append (i := 4) (ve_var (i := 6)))
      (vss_nil (O := [4]) (O' := [4]))))
      (vss_nil (O := [4]) (O' := [4]))))))
      (vss_cons (vs_if (O' := [4]) (vt_bool (vw_or (vt_ne (ve_var (i := 2)) ve_str) (vw_or1 (vt_not (vt_tru (ve_var (i := 1)))))))
      (vss_cons vs_never
      (vss_nil (O := [4]) (O' := [4])))
      (vss_nil (O := [4]) (O' := [4])))
      (vss_cons (vs_ret (ve_make h_Book (vl_cons (ve_var (i := 3)) (vl_cons (ve_tuple T.tuple_ (vb_own (i := 4))) vl_nil)) (Nat.le_of_ble_eq_true rfl)))
      (vss_nil (O := []) (O' := []))))))))
theorem sc_BookEq : FnScope ["self", "other"] ["self", "other"] (defScope s_BookEq) := ⟨rfl, rfl, rfl, by decide +kernel, rfl, by decide +kernel, by decide +kernel⟩
def b_BookEq : Rho → Out := (dSeq (dRet (dAndV (dUn fIsBk (dVar 1)) (dAndV (dBin fEq (dUn f_back (dVar 0)) (dUn f_back (dVar 1))) (dBin fEq (dUn f_barred (dVar 0)) (dUn f_barred (dVar 1)))))) dNx)
def m_BookEq : List D → Res D := runD false b_BookEq 2
theorem ok_BookEq {g : Addr} {fd : FuncData} (hΘ : Θ.K = K) (T : Txt K mg Θ.bk)  (F : Fun K "__eq__" "Book.__eq__" s_BookEq g fd) : FnOk P w K mg base (L2.CX P w) 1 g fd ["self", "other"] (spD Θ mg false 2 m_BookEq) := by
  cases hΘ
  exact meth_ok rfl F sc_BookEq (fun cdv A outer s H E hr =>
    (vss_cons (vs_ret (ve_and (ve_isBk T.isB (ve_var (i := 1))) (ve_and (ve_eq (ve_bk_back T.bf (ve_var (i := 0))) (ve_bk_back T.bf (ve_var (i := 1)))) (ve_one (ve_eq (ve_bk_barred T.bf (ve_var (i := 0))) (ve_bk_barred T.bf (ve_var (i := 1))))))))
      (vss_nil (O := []) (O' := []))))
theorem sc__law_says : FnScope ["told", "due"] ["told", "due"] (defScope s__law_says) := ⟨rfl, rfl, rfl, by decide +kernel, rfl, by decide +kernel, by decide +kernel⟩
def b__law_says : Rho → Out := (dSeq (dRet (dAndV (dUn (fIsi "bool") (dVar 0)) (dBin fEq (dVar 0) (dVar 1)))) dNx)
def m__law_says : List D → Res D := runD false b__law_says 2
theorem ok__law_says {g : Addr} {fd : FuncData} (hΘ : Θ.K = K) (T : Txt K mg Θ.bk)  (F : Fun K "_law_says" "_law_says" s__law_says g fd) (hg : mg "_law_says" = some (.ref g)) (hb : Binds K fd ["told", "due"] []) : FOk P w K mg base Θ "_law_says" 1 false 2 m__law_says := by
  cases hΘ
  exact def_ok rfl F hg hb sc__law_says (fun cdv A outer s H E hr =>
    (vss_cons (vs_ret (ve_and (ve_isi (T := "bool") T.isinstance T.bool_ (ve_var (i := 0))) (ve_one (ve_eq (ve_var (i := 0)) (ve_var (i := 1))))))
      (vss_nil (O := []) (O' := []))))
theorem sc__law_is_number : FnScope ["thing"] ["thing"] (defScope s__law_is_number) := ⟨rfl, rfl, rfl, by decide +kernel, rfl, by decide +kernel, by decide +kernel⟩
def b__law_is_number : Rho → Out := (dSeq (dRet (dAndV (dUn (fIsi "int") (dVar 0)) (dNotE (dUn (fIsi "bool") (dVar 0))))) dNx)
def m__law_is_number : List D → Res D := runD false b__law_is_number 1
theorem ok__law_is_number {g : Addr} {fd : FuncData} (hΘ : Θ.K = K) (T : Txt K mg Θ.bk)  (F : Fun K "_law_is_number" "_law_is_number" s__law_is_number g fd) (hg : mg "_law_is_number" = some (.ref g)) (hb : Binds K fd ["thing"] []) : FOk P w K mg base Θ "_law_is_number" 1 false 1 m__law_is_number := by
  cases hΘ
  exact def_ok rfl F hg hb sc__law_is_number (fun cdv A outer s H E hr =>
    (vss_cons (vs_ret (ve_and (ve_isi (T := "int") T.isinstance T.int_ (ve_var (i := 0))) (ve_one (ve_not (ve_isi (T := "bool") T.isinstance T.bool_ (ve_var (i := 0)))))))
      (vss_nil (O := []) (O' := []))))
theorem sc__law_is_row : FnScope ["thing", "many", "bound", "piece"] ["thing", "many", "bound"] (defScope s__law_is_row) := ⟨rfl, rfl, rfl, by decide +kernel, rfl, by decide +kernel, by decide +kernel⟩
def l1__law_is_row : Rho → Out := (dSeq (dIfS (dOrT (dNotT (dTru (dCall 1 m__law_is_number (dCons (dVar 3) dNil)))) (dOrT (dTst (dBin fLt (dVar 3) (dC (.int 0)))) (dTst (dBin fGe (dVar 3) (dVar 2))))) (dSeq (dRet (dC (.bl false))) dNx) dNx) dNx)
def b__law_is_row : Rho → Out := (dSeq (dIfS (dOrT (dNotT (dTru (dUn (fIsi "tuple") (dVar 0)))) (dTst (dBin fNe (dUn fLen (dVar 0)) (dVar 1)))) (dSeq (dRet (dC (.bl false))) dNx) dNx) (dSeq (dFor (dWalk (dVar 0)) (gN 3) l1__law_is_row) (dSeq (dRet (dC (.bl true))) dNx)))
def m__law_is_row : List D → Res D := runD false b__law_is_row 4
theorem ok__law_is_row {g : Addr} {fd : FuncData} (hΘ : Θ.K = K) (T : Txt K mg Θ.bk) (h__law_is_number : FOk P w K mg base Θ "_law_is_number" 1 false 1 m__law_is_number) (F : Fun K "_law_is_row" "_law_is_row" s__law_is_row g fd) (hg : mg "_law_is_row" = some (.ref g)) (hb : Binds K fd ["thing", "many", "bound"] []) : FOk P w K mg base Θ "_law_is_row" 2 false 3 m__law_is_row := by
  cases hΘ
  exact def_ok rfl F hg hb sc__law_is_row (fun cdv A outer s H E hr =>
    (vss_cons (vs_if (O' := []) (vt_bool (vw_or (vt_not (vt_tru (ve_isi (T := "tuple") T.isinstance T.tuple_ (ve_var (i := 0))))) (vw_or1 (vt_ne (ve_len T.len (ve_var (i := 0))) (ve_var (i := 1))))))
      (vss_cons (vs_ret ve_bl)
      (vss_nil (O := []) (O' := [])))
      (vss_nil (O := []) (O' := [])))
      (vss_cons (vs_for (vi_seq (ve_var (i := 0))) (vg_name (i := 3))
      (vss_cons (vs_if (O' := []) (vt_bool (vw_or (vt_not (vt_tru (vc_call h__law_is_number (vl_cons (ve_var (i := 3)) vl_nil) (Nat.le_of_ble_eq_true rfl)))) (vw_or (vt_lt (ve_var (i := 3)) ve_int) (vw_or1 (vt_ge (ve_var (i := 3)) (ve_var (i := 2)))))))
      (vss_cons (vs_ret ve_bl)
      (vss_nil (O := []) (O' := [])))
      (vss_nil (O := []) (O' := [])))
      (vss_nil (O := []) (O' := []))))
      (vss_cons (vs_ret ve_bl)
      (vss_nil (O := []) (O' := []))))))
theorem sc_law : FnScope ["script", "numbers", "more", "back", "barred", "other_back", "other_barred", "text", "told", "book", "trio", "equal", "other", "again"] ["script"] (defScope s_law) := ⟨rfl, rfl, rfl, by decide +kernel, rfl, by decide +kernel, by decide +kernel⟩
def l1_law : Rho → Out := (dSeq (dIfS (dNotT (dTru (dCall 3 m__law_is_row (dCons (dVar 10) (dCons (dC (.int 3)) (dCons (dUn fLen (dVar 3)) dNil)))))) (dSeq (dRet (dC (.bl false))) dNx) dNx) dNx)
def b_law : Rho → Out := (dSeq (dSet 1 (dCall 3 m__law_numbers (dCons (dVar 0) (dCons (dC (.int 0)) (dCons (dC (.int 40)) dNil))))) (dSeq (dSet 2 (dCall 3 m__law_numbers (dCons (dVar 0) (dCons (dC (.int 2)) (dCons (dC (.int 40)) dNil))))) (dSeq (dAsg (dCall 1 m__law_any_book (dCons (dVar 1) dNil)) (gT 2 (gCons (gN 3) (gCons (gN 4) gNil)))) (dSeq (dAsg (dCall 1 m__law_any_book (dCons (dVar 2) dNil)) (gT 2 (gCons (gN 5) (gCons (gN 6) gNil)))) (dSeq (dSet 7 (dCall 2 m__law_text (dCons (dVar 3) (dCons (dVar 4) dNil)))) (dSeq (dSet 8 (dCall 1 m_book_text (dCons (dCall 2 m_Book (dCons (dVar 3) (dCons (dVar 4) dNil))) dNil))) (dSeq (dIfS (dOrT (dNotT (dTru (dUn (fIsi "str") (dVar 8)))) (dTst (dBin fNe (dVar 8) (dVar 7)))) (dSeq (dRet (dC (.bl false))) dNx) dNx) (dSeq (dSet 9 (dCall 1 m_read_book (dCons (dVar 7) dNil))) (dSeq (dIfS (dOrT (dNotT (dTru (dUn fIsBk (dVar 9)))) (dOrT (dNotT (dTru (dUn (fIsi "tuple") (dUn f_back (dVar 9))))) (dNotT (dTru (dUn (fIsi "tuple") (dUn f_barred (dVar 9))))))) (dSeq (dRet (dC (.bl false))) dNx) dNx) (dSeq (dIfS (dOrT (dTst (dBin fNe (dUn f_back (dVar 9)) (dVar 3))) (dTst (dBin fNe (dUn f_barred (dVar 9)) (dVar 4)))) (dSeq (dRet (dC (.bl false))) dNx) dNx) (dSeq (dIfS (dOrT (dTst (dBin (fBk not m_BookEq) (dVar 9) (dCall 2 m_Book (dCons (dVar 3) (dCons (dVar 4) dNil))))) (dTst (dBin fNe (dUn f_kinds (dVar 9)) (dUn fLen (dVar 3))))) (dSeq (dRet (dC (.bl false))) dNx) dNx) (dSeq (dFor (dWalk (dUn f_barred (dVar 9))) (gN 10) l1_law) (dSeq (dSet 11 (dAndV (dBin fEq (dVar 3) (dVar 5)) (dBin fEq (dVar 4) (dVar 6)))) (dSeq (dSet 12 (dCall 2 m_Book (dCons (dVar 5) (dCons (dVar 6) dNil)))) (dSeq (dIfS (dTst (dBin fNe (dBin fEq (dCall 1 m_book_text (dCons (dVar 12) dNil)) (dVar 8)) (dVar 11))) (dSeq (dRet (dC (.bl false))) dNx) dNx) (dSeq (dIfS (dNotT (dTru (dCall 2 m__law_says (dCons (dBin (fBk id m_BookEq) (dVar 12) (dVar 9)) (dCons (dVar 11) dNil))))) (dSeq (dRet (dC (.bl false))) dNx) dNx) (dSeq (dSet 13 (dCall 1 m_read_book (dCons (dCall 1 m_book_text (dCons (dVar 12) dNil)) dNil))) (dSeq (dRet (dAndV (dBin fEq (dUn f_barred (dVar 13)) (dVar 6)) (dBin fEq (dUn f_back (dVar 13)) (dVar 5)))) dNx))))))))))))))))))
def m_law : List D → Res D := runD false b_law 14
theorem ok_law {g : Addr} {fd : FuncData} (hΘ : Θ.K = K) (T : Txt K mg Θ.bk) (h__law_numbers : FOk P w K mg base Θ "_law_numbers" 2 false 3 m__law_numbers) (h__law_any_book : FOk P w K mg base Θ "_law_any_book" 4 false 1 m__law_any_book) (h__law_text : FOk P w K mg base Θ "_law_text" 1 false 2 m__law_text) (h_book_text : FOk P w K mg base Θ "book_text" 2 false 1 m_book_text) (h_Book : BOk P w K mg base Θ 5 m_Book) (h_read_book : FOk P w K mg base Θ "read_book" 7 false 1 m_read_book) (h_BookEq : EqOk P w K mg base Θ 1 m_BookEq) (h__law_is_row : FOk P w K mg base Θ "_law_is_row" 2 false 3 m__law_is_row) (h__law_says : FOk P w K mg base Θ "_law_says" 1 false 2 m__law_says) (F : Fun K "law" "law" s_law g fd) : FnOk P w K mg base (L2.CX P w) 8 g fd ["script"] (spD Θ mg false 1 m_law) := by
  cases hΘ
  exact meth_ok rfl F sc_law (fun cdv A outer s H E hr =>
    (vss_cons (vs_set (i := 1) (vc_call h__law_numbers (vl_cons (ve_var (i := 0)) (vl_cons ve_int (vl_cons ve_int vl_nil))) (Nat.le_of_ble_eq_true rfl)))
      (vss_cons (vs_set (i := 2) (vc_call h__law_numbers (vl_cons (ve_var (i := 0)) (vl_cons ve_int (vl_cons ve_int vl_nil))) (Nat.le_of_ble_eq_true rfl)))
      (vss_cons (vs_asg (vc_call h__law_any_book (vl_cons (ve_var (i := 1)) vl_nil) (Nat.le_of_ble_eq_true rfl)) (vg_tup (vgs_cons (vg_name (i := 3)) (vgs_cons (vg_name (i := 4)) vgs_nil))))
      (vss_cons (vs_asg (vc_call h__law_any_book (vl_cons (ve_var (i := 2)) vl_nil) (Nat.le_of_ble_eq_true rfl)) (vg_tup (vgs_cons (vg_name (i := 5)) (vgs_cons (vg_name (i := 6)) vgs_nil))))
      (vss_cons (vs_set (i := 7) (vc_call h__law_text (vl_cons (ve_var (i := 3)) (vl_cons (ve_var (i := 4)) vl_nil)) (Nat.le_of_ble_eq_true rfl)))
      (vss_cons (vs_set (i := 8) (vc_call h_book_text (vl_cons (ve_make h_Book (vl_cons (ve_var (i := 3)) (vl_cons (ve_var (i := 4)) vl_nil)) (Nat.le_of_ble_eq_true rfl)) vl_nil) (Nat.le_of_ble_eq_true rfl)))
      (vss_cons (vs_if (O' := []) (vt_bool (vw_or (vt_not (vt_tru (ve_isi (T := "str") T.isinstance T.str_ (ve_var (i := 8))))) (vw_or1 (vt_ne (ve_var (i := 8)) (ve_var (i := 7))))))
      (vss_cons (vs_ret ve_bl)
      (vss_nil (O := []) (O' := [])))
      (vss_nil (O := []) (O' := [])))
      (vss_cons (vs_set (i := 9) (vc_call h_read_book (vl_cons (ve_var (i := 7)) vl_nil) (Nat.le_of_ble_eq_true rfl)))
      (vss_cons (vs_if (O' := []) (vt_bool (vw_or (vt_not (vt_tru (ve_isBk T.isB (ve_var (i := 9))))) (vw_or (vt_not (vt_tru (ve_isi (T := "tuple") T.isinstance T.tuple_ (ve_bk_back T.bf (ve_var (i := 9)))))) (vw_or1 (vt_not (vt_tru (ve_isi (T := "tuple") T.isinstance T.tuple_ (ve_bk_barred T.bf (ve_var (i := 9))))))))))
      (vss_cons (vs_ret ve_bl)
      (vss_nil (O := []) (O' := [])))
      (vss_nil (O := []) (O' := [])))
      (vss_cons (vs_if (O' := []) (vt_bool (vw_or (vt_ne (ve_bk_back T.bf (ve_var (i := 9))) (ve_var (i := 3))) (vw_or1 (vt_ne (ve_bk_barred T.bf (ve_var (i := 9))) (ve_var (i := 4))))))
      (vss_cons (vs_ret ve_bl)
      (vss_nil (O := []) (O' := [])))
      (vss_nil (O := []) (O' := [])))
      (vss_cons (vs_if (O' := []) (vt_bool (vw_or (vt_bkNe h_BookEq (ve_var (i := 9)) (ve_make h_Book (vl_cons (ve_var (i := 3)) (vl_cons (ve_var (i := 4)) vl_nil)) (Nat.le_of_ble_eq_true rfl)) (Nat.le_of_ble_eq_true rfl)) (vw_or1 (vt_ne (ve_bk_kinds T.bf (ve_var (i := 9))) (ve_len T.len (ve_var (i := 3)))))))
      (vss_cons (vs_ret ve_bl)
      (vss_nil (O := []) (O' := [])))
      (vss_nil (O := []) (O' := [])))
      (vss_cons (vs_for (vi_seq (ve_bk_barred T.bf (ve_var (i := 9)))) (vg_name (i := 10))
      (vss_cons (vs_if (O' := []) (vt_not (vt_tru (vc_call h__law_is_row (vl_cons (ve_var (i := 10)) (vl_cons ve_int (vl_cons (ve_len T.len (ve_var (i := 3))) vl_nil))) (Nat.le_of_ble_eq_true rfl))))
      (vss_cons (vs_ret ve_bl)
      (vss_nil (O := []) (O' := [])))
      (vss_nil (O := []) (O' := [])))
      (vss_nil (O := []) (O' := []))))
      (vss_cons (vs_set (i := 11) (ve_and (ve_eq (ve_var (i := 3)) (ve_var (i := 5))) (ve_one (ve_eq (ve_var (i := 4)) (ve_var (i := 6))))))
      (vss_cons (vs_set (i := 12) (ve_make h_Book (vl_cons (ve_var (i := 5)) (vl_cons (ve_var (i := 6)) vl_nil)) (Nat.le_of_ble_eq_true rfl)))
      (vss_cons (vs_if (O' := []) (vt_ne (ve_eq (vc_call h_book_text (vl_cons (ve_var (i := 12)) vl_nil) (Nat.le_of_ble_eq_true rfl)) (ve_var (i := 8))) (ve_var (i := 11)))
      (vss_cons (vs_ret ve_bl)
      (vss_nil (O := []) (O' := [])))
      (vss_nil (O := []) (O' := [])))
      (vss_cons (vs_if (O' := []) (vt_not (vt_tru (vc_call h__law_says (vl_cons (ve_bkEq h_BookEq (ve_var (i := 12)) (ve_var (i := 9)) (Nat.le_of_ble_eq_true rfl)) (vl_cons (ve_var (i := 11)) vl_nil)) (Nat.le_of_ble_eq_true rfl))))
      (vss_cons (vs_ret ve_bl)
      (vss_nil (O := []) (O' := [])))
      (vss_nil (O := []) (O' := [])))
      (vss_cons (vs_set (i := 13) (vc_call h_read_book (vl_cons (vc_call h_book_text (vl_cons (ve_var (i := 12)) vl_nil) (Nat.le_of_ble_eq_true rfl)) vl_nil) (Nat.le_of_ble_eq_true rfl)))
      (vss_cons (vs_ret (ve_and (ve_eq (ve_bk_barred T.bf (ve_var (i := 13))) (ve_var (i := 6))) (ve_one (ve_eq (ve_bk_back T.bf (ve_var (i := 13))) (ve_var (i := 5))))))
      (vss_nil (O := []) (O' := [])))))))))))))))))))))
end
end K87

namespace K87
open PySem L2 Dn
open SX (S)
/-! ### tables -/
def backT (l : List Nat) : D := .tup (l.map fun (n : Nat) => D.int n)
theorem tab_back : (backs17.all fun b => beqR (m_is_back [backT b]) (.ok (.bl true))) = true := by decide +kernel
theorem tab_rows : (backs17.all fun b => beqR (m_all_rows [.int 3, .int b.length]) (.ok (.lst ((allTrios b.length).map trioD)))) = true := by decide +kernel
theorem tab_min : (backs17.all fun b => (allTrios b.length).all fun t => beqR ((m_orders_of [backT b, trioD t]).bind fMin) (.ok (trioD (formN b t)))) = true := by decide +kernel
theorem tab_backs : beqR (m__law_backs []) (.ok (.lst (backs17.map backT))) = true := by decide +kernel
def insN (t : Nat × Nat × Nat) : List (Nat × Nat × Nat) → List (Nat × Nat × Nat)
  | [] => [t]
  | s :: r => if lt3 t s then t :: s :: r else s :: insN t r
def formsN (b : List Nat) : List (Nat × Nat × Nat) := ((allTrios b.length).map (formN b)).foldl (fun acc t => if acc.contains t then acc else insN t acc) []
theorem tab_forms : (backs17.all fun b => beqR (m__law_forms [backT b]) (.ok (.lst ((formsN b).map trioD)))) = true := by decide +kernel
theorem tab_good : (backs17.all fun b => goodBk ⟨b, formsN b⟩) = true := by decide +kernel
theorem tab_lt : ((allTrios 4).all fun s => (allTrios 4).all fun t => beqD (trioD s) (trioD s) && (match fLt (trioD s) (trioD t) with | .ok (.bl k) => k == lt3 s t | _ => false)) = true := by decide +kernel
theorem tab_len : (backs17.all fun b => decide (b.length ≤ 4) && decide ((allTrios b.length).length ≤ 64) && b.all (fun n => decide (n < 4))) = true := by decide +kernel
theorem tab_lt4 : (backs17.all fun b => (allTrios b.length).all fun t => decide (t.1 < b.length) && decide (t.2.1 < b.length) && decide (t.2.2 < b.length)) = true := by decide +kernel
theorem all_t {α : Type} {l : List α} {p : α → Bool} (h : l.all p = true) {x : α} (hx : x ∈ l) : p x = true := List.all_eq_true.mp h x hx
theorem is_back_t {b : List Nat} (h : b ∈ backs17) : m_is_back [backT b] = .ok (.bl true) := beqR_eq (all_t tab_back h)
theorem rows_t {b : List Nat} (h : b ∈ backs17) : m_all_rows [.int 3, .int b.length] = .ok (.lst ((allTrios b.length).map trioD)) := beqR_eq (all_t tab_rows h)
theorem min_t {b : List Nat} (h : b ∈ backs17) {t : Nat × Nat × Nat} (ht : t ∈ allTrios b.length) : (m_orders_of [backT b, trioD t]).bind fMin = .ok (trioD (formN b t)) := beqR_eq (all_t (all_t tab_min h) ht)
theorem backs_t : m__law_backs [] = .ok (.lst (backs17.map backT)) := beqR_eq tab_backs
theorem forms_t {b : List Nat} (h : b ∈ backs17) : m__law_forms [backT b] = .ok (.lst ((formsN b).map trioD)) := beqR_eq (all_t tab_forms h)
theorem len_t {b : List Nat} (h : b ∈ backs17) : b.length ≤ 4 ∧ (allTrios b.length).length ≤ 64 ∧ ∀ n ∈ b, n < 4 := by
  have := all_t tab_len h
  simp only [Bool.and_eq_true, decide_eq_true_eq] at this
  exact ⟨this.1.1, this.1.2, fun n hn => by simpa using all_t this.2 hn⟩
theorem mem_trios {k : Nat} {t : Nat × Nat × Nat} : t ∈ allTrios k ↔ t.1 < k ∧ t.2.1 < k ∧ t.2.2 < k := by
  obtain ⟨a, b, c⟩ := t
  unfold allTrios
  simp only [List.mem_flatMap, List.mem_map, List.mem_range, Prod.mk.injEq]
  constructor
  · rintro ⟨x, hx, y, hy, z, hz, rfl, rfl, rfl⟩
    exact ⟨hx, hy, hz⟩
  · rintro ⟨h1, h2, h3⟩
    exact ⟨a, h1, b, h2, c, h3, rfl, rfl, rfl⟩
theorem lt_t {s t : Nat × Nat × Nat} (hs : s ∈ allTrios 4) (ht : t ∈ allTrios 4) : fLt (trioD s) (trioD t) = .ok (.bl (lt3 s t)) := by
  have := all_t (all_t tab_lt hs) ht
  simp only [Bool.and_eq_true] at this
  have h2 := this.2
  split at h2
  · rename_i k e
    rw [e, eq_of_beq h2]
  · cases h2
structure Good (b : Bk) : Prop where
  bk : b.back ∈ backs17
  mem : ∀ t ∈ b.bar, t ∈ allTrios b.back.length
  least : ∀ t ∈ b.bar, formN b.back t = t
  up : b.bar.Pairwise fun s t => lt3 s t = true
  len : b.bar.length ≤ 64
theorem good_iff {b : Bk} : goodBk b = true ↔ Good b := by
  unfold goodBk
  simp only [Bool.and_eq_true, decide_eq_true_eq, List.contains_iff_mem, List.all_eq_true]
  constructor
  · rintro ⟨⟨⟨h1, h2⟩, h3⟩, h4⟩
    exact ⟨h1, fun t ht => mem_trios.mpr ⟨(h2 t ht).1.1.1, (h2 t ht).1.1.2, (h2 t ht).1.2⟩, fun t ht => (h2 t ht).2, h3, h4⟩
  · rintro ⟨h1, h2, h3, h4, h5⟩
    exact ⟨⟨⟨h1, fun t ht => ⟨⟨⟨(mem_trios.mp (h2 t ht)).1, (mem_trios.mp (h2 t ht)).2.1⟩, (mem_trios.mp (h2 t ht)).2.2⟩, h3 t ht⟩⟩, h4⟩, h5⟩
theorem good_sub {b : List Nat} (h : b ∈ backs17) {ts : List (Nat × Nat × Nat)} (s : ts.Sublist (formsN b)) : Good ⟨b, ts⟩ := by
  have g := good_iff.mp (all_t tab_good h)
  exact ⟨h, fun t ht => g.mem t (s.subset ht), fun t ht => g.least t (s.subset ht), g.up.sublist s, Nat.le_trans s.length_le g.len⟩
theorem trios4 {b : List Nat} (h : b ∈ backs17) {t : Nat × Nat × Nat} (ht : t ∈ allTrios b.length) : t ∈ allTrios 4 := by
  have := (len_t h).1
  have := mem_trios.mp ht
  exact mem_trios.mpr ⟨by omega, by omega, by omega⟩
end K87

namespace K87
open PySem L2 Dn
open SX (S)
/-! ### the law's own helpers -/
theorem is_whole_i (i : Int) : m_is_whole [.int i] = .ok (.bl true) := rfl
theorem is_below_i (i n : Int) : m_is_below [.int i, .int n] = .ok (.bl (decide (0 ≤ i) && decide (i < n))) := by
  by_cases h : 0 ≤ i <;> simp [m_is_below, b_is_below, is_whole_i, runD, toRes, dSeq, dSet, setR, onD, dVar, dC, dBin, dUn, dCall, dCall0, dCons, dNil, dStar, itemsD, dTup, dLst, dRet, dIfS, dNx, dTst, dTru, truD, dNotT, dAndT, dOrT, dAndV, dOrV, dNotE, dIf, dChain, dWalk, walkD, dRng1, dRng2, Res.bind, dAsg, gT, Dn.gCons, Dn.gNil, gN, dUpd, isLst, updK, fApp, fAdd, fSub, fMul, fLt, fLe, fGt, fGe, fLen, fTuple, fAbs, fIsi, tyN, isB, okI, fInt, fDiv, fMod, h]
theorem are_below_3 (a b c n : Int) (h : 0 ≤ a ∧ a < n ∧ 0 ≤ b ∧ b < n ∧ 0 ≤ c ∧ c < n) : m_are_below [.tup [.int a, .int b, .int c], .int 3, .int n] = .ok (.bl true) := by
  obtain ⟨h1, h2, h3, h4, h5, h6⟩ := h
  simp [m_are_below, b_are_below, c1_are_below, is_below_i, runD, toRes, dSeq, dSet, setR, onD, dVar, dC, dBin, dUn, dCall, dCall0, dCons, dNil, dStar, itemsD, dTup, dLst, dRet, dIfS, dNx, dTst, dTru, truD, dNotT, dAndT, dOrT, dAndV, dOrV, dNotE, dIf, dChain, dWalk, walkD, dRng1, dRng2, Res.bind, dAsg, gT, Dn.gCons, Dn.gNil, gN, dUpd, isLst, updK, fApp, fAdd, fSub, fMul, fLt, fLe, fGt, fGe, fLen, fTuple, fAbs, fIsi, tyN, isB, okI, fInt, fDiv, fMod, dLc, lcD, wipeR, dYes, fAll, blsD, h1, h2, h3, h4, h5, h6]
theorem cell (ns : List Int) (k : Nat) : ∃ c, m__law_cell [.scr ns, .int k] = .ok (.int c) := by
  by_cases h : k < ns.length
  · have : L2.atI ns (k : Int) = some ns[k] := by
      unfold L2.atI L2.ixN
      rw [if_pos (by omega), if_pos (by omega)]
      simp [h]
    exact ⟨ns[k], by simp [m__law_cell, b__law_cell, runD, toRes, dSeq, dSet, setR, onD, dVar, dC, dBin, dUn, dCall, dCall0, dCons, dNil, dStar, itemsD, dTup, dLst, dRet, dIfS, dNx, dTst, dTru, truD, dNotT, dAndT, dOrT, dAndV, dOrV, dNotE, dIf, dChain, dWalk, walkD, dRng1, dRng2, Res.bind, dAsg, gT, Dn.gCons, Dn.gNil, gN, dUpd, isLst, updK, fApp, fAdd, fSub, fMul, fLt, fLe, fGt, fGe, fLen, fTuple, fAbs, fIsi, tyN, isB, okI, fInt, fDiv, fMod, h, fIx, this]⟩
  · exact ⟨0, by simp [m__law_cell, b__law_cell, runD, toRes, dSeq, dSet, setR, onD, dVar, dC, dBin, dUn, dCall, dCall0, dCons, dNil, dStar, itemsD, dTup, dLst, dRet, dIfS, dNx, dTst, dTru, truD, dNotT, dAndT, dOrT, dAndV, dOrV, dNotE, dIf, dChain, dWalk, walkD, dRng1, dRng2, Res.bind, dAsg, gT, Dn.gCons, Dn.gNil, gN, dUpd, isLst, updK, fApp, fAdd, fSub, fMul, fLt, fLe, fGt, fGe, fLen, fTuple, fAbs, fIsi, tyN, isB, okI, fInt, fDiv, fMod, h]⟩
theorem numbers (ns : List Int) (at_ : Nat) : ∃ L : List Int, L.length = 40 ∧ m__law_numbers [.scr ns, .int at_, .int 40] = .ok (.lst (L.map D.int)) := by
  obtain ⟨c, hc⟩ := cell ns at_
  obtain ⟨c1, hc1⟩ := cell ns (at_ + 1)
  have hc1' : m__law_cell [.scr ns, .int ((at_ : Int) + 1)] = .ok (.int c1) := by simpa using hc1
  have hl := loop_for (g := gN 6) (db := l1__law_numbers) (ds := rng 0 (40 : Nat)) (ρ0 := [some (.scr ns), some (.int at_), some (.int 40), some (.int (if c < 0 then -c else c)), some (.bl (decide (1000000000000000000 ≤ (if c < 0 then -c else c)))), some (.lst []), none])
    (fun i ρ => ∃ (x : Int) (g : Bool) (L : List Int) (q : Option D), L.length = i ∧ ρ = [some (.scr ns), some (.int at_), some (.int 40), some (.int x), some (.bl g), some (.lst (L.map D.int)), q]) ⟨_, _, [], _, rfl, rfl⟩ (by
    rintro i d ρ hd ⟨x, g, L, q, hL, rfl⟩
    obtain ⟨rfl, hi⟩ := rng_get hd
    refine ⟨_, rfl, ?_⟩
    have hLl : L.length < 16777216 := by omega
    cases g with
    | false =>
      refine OkStep.of (by simp [l1__law_numbers, runD, toRes, dSeq, dSet, setR, onD, dVar, dC, dBin, dUn, dCall, dCall0, dCons, dNil, dStar, itemsD, dTup, dLst, dRet, dIfS, dNx, dTst, dTru, truD, dNotT, dAndT, dOrT, dAndV, dOrV, dNotE, dIf, dChain, dWalk, walkD, dRng1, dRng2, Res.bind, dAsg, gT, Dn.gCons, Dn.gNil, gN, dUpd, isLst, updK, fApp, fAdd, fSub, fMul, fLt, fLe, fGt, fGe, fLen, fTuple, fAbs, fIsi, tyN, isB, okI, fInt, fDiv, fMod, hLl]; rfl) ?_
      exact ⟨_, _, L ++ [_], _, by simp [hL], by rw [List.map_append]; rfl⟩
    | true =>
      by_cases hx : x = 0
      · subst hx
        refine OkStep.of (by simp [l1__law_numbers, runD, toRes, dSeq, dSet, setR, onD, dVar, dC, dBin, dUn, dCall, dCall0, dCons, dNil, dStar, itemsD, dTup, dLst, dRet, dIfS, dNx, dTst, dTru, truD, dNotT, dAndT, dOrT, dAndV, dOrV, dNotE, dIf, dChain, dWalk, walkD, dRng1, dRng2, Res.bind, dAsg, gT, Dn.gCons, Dn.gNil, gN, dUpd, isLst, updK, fApp, fAdd, fSub, fMul, fLt, fLe, fGt, fGe, fLen, fTuple, fAbs, fIsi, tyN, isB, okI, fInt, fDiv, fMod, hLl, hc1']; rfl) ?_
        exact ⟨_, _, L ++ [_], _, by simp [hL], by rw [List.map_append]; rfl⟩
      · refine OkStep.of (by simp [l1__law_numbers, runD, toRes, dSeq, dSet, setR, onD, dVar, dC, dBin, dUn, dCall, dCall0, dCons, dNil, dStar, itemsD, dTup, dLst, dRet, dIfS, dNx, dTst, dTru, truD, dNotT, dAndT, dOrT, dAndV, dOrV, dNotE, dIf, dChain, dWalk, walkD, dRng1, dRng2, Res.bind, dAsg, gT, Dn.gCons, Dn.gNil, gN, dUpd, isLst, updK, fApp, fAdd, fSub, fMul, fLt, fLe, fGt, fGe, fLen, fTuple, fAbs, fIsi, tyN, isB, okI, fInt, fDiv, fMod, hLl, hx]; rfl) ?_
        exact ⟨_, _, L ++ [_], _, by simp [hL], by rw [List.map_append]; rfl⟩)
  obtain ⟨ρ', h1, x, g, L, q, hL, rfl⟩ := hl
  refine ⟨L, by simpa [rng] using hL, ?_⟩
  rw [show ((40 : Nat) : Int) = 40 from rfl] at h1
  simp [m__law_numbers, b__law_numbers, runD, toRes, dSeq, dSet, setR, onD, dVar, dC, dBin, dUn, dCall, dCall0, dCons, dNil, dStar, itemsD, dTup, dLst, dRet, dIfS, dNx, dTst, dTru, truD, dNotT, dAndT, dOrT, dAndV, dOrV, dNotE, dIf, dChain, dWalk, walkD, dRng1, dRng2, Res.bind, dAsg, gT, Dn.gCons, Dn.gNil, gN, dUpd, isLst, updK, fApp, fAdd, fSub, fMul, fLt, fLe, fGt, fGe, fLen, fTuple, fAbs, fIsi, tyN, isB, okI, fInt, fDiv, fMod, hc, fPow, dFor, onL, h1]

theorem bars_sim : ∀ ts : List (Nat × Nat × Nat), simDs (ts.map trioD) = true
  | [] => rfl
  | t :: ts => by
    simp only [List.map_cons, simDs, Bool.and_eq_true]
    exact ⟨rfl, bars_sim ts⟩
theorem bars_dep : ∀ ts : List (Nat × Nat × Nat), deps (ts.map trioD) ≤ 1
  | [] => by simp [deps]
  | t :: ts => by
    have := bars_dep ts
    simp only [List.map_cons, deps, trioD, dep]
    omega
theorem nats_sim : ∀ ns : List Nat, simDs (ns.map fun (n : Nat) => D.int n) = true
  | [] => rfl
  | t :: ts => by
    simp only [List.map_cons, simDs, Bool.and_eq_true]
    exact ⟨rfl, nats_sim ts⟩
theorem nats_dep : ∀ ns : List Nat, deps (ns.map fun (n : Nat) => D.int n) = 0
  | [] => by simp [deps]
  | t :: ts => by
    have := nats_dep ts
    simp only [List.map_cons, deps, dep]
    omega
end K87

namespace K87
open PySem L2 Dn
open SX (S)
theorem any_book (L : List Int) (hL : L.length = 40) : ∃ b : Bk, Good b ∧ m__law_any_book [.lst (L.map D.int)] = .ok (.tup [backD b, barD b]) := by
  have hget : ∀ i : Nat, i < 40 → ∃ x, L2.atI (L.map D.int) (i : Int) = some (D.int x) := fun i hi => by
    rw [Dn.atI_nat (by simp [hL, hi])]
    exact ⟨_, by rw [List.getElem_map]⟩
  obtain ⟨x0, hx0⟩ := hget 0 (by omega)
  have hx0' : L2.atI (L.map D.int) 0 = some (D.int x0) := hx0
  obtain ⟨j, hj, ej⟩ : ∃ j : Nat, j < 17 ∧ x0 % 17 = j := ⟨(x0 % 17).toNat, by omega, by omega⟩
  have hb : ∃ b, b ∈ backs17 ∧ L2.atI (backs17.map backT) (j : Int) = some (backT b) := by
    have hl : j < (backs17.map backT).length := by simpa [backs17] using hj
    rw [Dn.atI_nat hl]
    exact ⟨backs17[j]'(by simpa using hl), List.getElem_mem _, by rw [List.getElem_map]⟩
  obtain ⟨b, hb, eb⟩ := hb
  have hfl : (formsN b).length ≤ 64 := (good_iff.mp (all_t tab_good hb)).len
  have hl := loop_for (g := gN 4) (db := l1__law_any_book) (ds := rng 0 ((formsN b).length : Nat)) (ρ0 := [some (.lst (L.map D.int)), some (backT b), some (.lst ((formsN b).map trioD)), some (.lst []), none])
    (fun i ρ => ∃ (ts : List (Nat × Nat × Nat)) (q : Option D), ts.Sublist ((formsN b).take i) ∧ ρ = [some (.lst (L.map D.int)), some (backT b), some (.lst ((formsN b).map trioD)), some (.lst (ts.map trioD)), q]) ⟨[], _, by simp, rfl⟩ (by
    rintro i d ρ hd ⟨ts, q, hs, rfl⟩
    obtain ⟨rfl, hi⟩ := rng_get hd
    refine ⟨_, rfl, ?_⟩
    obtain ⟨x, hx⟩ := hget (1 + i % 39) (by omega)
    have hx' : L2.atI (L.map D.int) (1 + (i : Int) % 39) = some (D.int x) := by
      have e : (1 + (i : Int) % 39) = ((1 + i % 39 : Nat) : Int) := by omega
      rw [e]; exact hx
    have hz : 0 < (1 + (i : Int) / 7) ∧ (1 + (i : Int) / 7) < 1073741824 := by omega
    have hf : L2.atI ((formsN b).map trioD) (i : Int) = some (trioD (formsN b)[i]) := by
      rw [Dn.atI_nat (by simpa using hi), List.getElem_map]
    have hts : ts.length < 16777216 := by
      have := hs.length_le
      rw [List.length_take] at this
      omega
    have tk : (formsN b).take (i + 1) = (formsN b).take i ++ [(formsN b)[i]] := by
      rw [List.take_add_one, List.getElem?_eq_getElem hi]
      rfl
    by_cases hc : x / (1 + (i : Int) / 7) % 3 = 1
    · refine OkStep.of (by simp [l1__law_any_book, runD, toRes, dSeq, dSet, setR, onD, dVar, dC, dBin, dUn, dCall, dCall0, dCons, dNil, dStar, itemsD, dTup, dLst, dRet, dIfS, dNx, dTst, dTru, truD, dNotT, dAndT, dOrT, dAndV, dOrV, dNotE, dIf, dChain, dWalk, walkD, dRng1, dRng2, Res.bind, dAsg, gT, Dn.gCons, Dn.gNil, gN, dUpd, isLst, updK, fApp, fAdd, fSub, fMul, fLt, fLe, fGt, fGe, fLen, fTuple, fAbs, fIsi, tyN, isB, okI, fInt, fDiv, fMod, hL, hx', hz, hc, hf, hts, fIx]; rfl) ?_
      exact ⟨ts ++ [(formsN b)[i]], _, by rw [tk]; exact hs.append (List.Sublist.refl _), by rw [List.map_append]; rfl⟩
    · refine OkStep.of (by simp [l1__law_any_book, runD, toRes, dSeq, dSet, setR, onD, dVar, dC, dBin, dUn, dCall, dCall0, dCons, dNil, dStar, itemsD, dTup, dLst, dRet, dIfS, dNx, dTst, dTru, truD, dNotT, dAndT, dOrT, dAndV, dOrV, dNotE, dIf, dChain, dWalk, walkD, dRng1, dRng2, Res.bind, dAsg, gT, Dn.gCons, Dn.gNil, gN, dUpd, isLst, updK, fApp, fAdd, fSub, fMul, fLt, fLe, fGt, fGe, fLen, fTuple, fAbs, fIsi, tyN, isB, okI, fInt, fDiv, fMod, hL, hx', hz, hc, hf, hts, fIx]; rfl) ?_
      exact ⟨ts, _, by rw [tk]; exact hs.trans (List.sublist_append_left _ _), rfl⟩)
  obtain ⟨ρ', h1, ts, q, hs, rfl⟩ := hl
  have hs' : ts.Sublist (formsN b) := hs.trans (List.take_sublist _ _)
  refine ⟨⟨b, ts⟩, good_sub hb hs', ?_⟩
  have hts : ts.length ≤ 16777216 := by
    have := hs'.length_le
    omega
  have h1' := h1
  have c1 : dRng1 (dUn fLen (dVar 2)) [some (.lst (L.map D.int)), some (backT b), some (.lst ((formsN b).map trioD)), some (.lst []), none] = .ok (rng 0 ((formsN b).length : Nat)) := by
    have : ((formsN b).length : Int) ≤ 16777216 := by omega
    have : -(2 ^ 62) ≤ ((formsN b).length : Int) := by omega
    simp [runD, toRes, dSeq, dSet, setR, onD, dVar, dC, dBin, dUn, dCall, dCall0, dCons, dNil, dStar, itemsD, dTup, dLst, dRet, dIfS, dNx, dTst, dTru, truD, dNotT, dAndT, dOrT, dAndV, dOrV, dNotE, dIf, dChain, dWalk, walkD, dRng1, dRng2, Res.bind, dAsg, gT, Dn.gCons, Dn.gNil, gN, dUpd, isLst, updK, fApp, fAdd, fSub, fMul, fLt, fLe, fGt, fGe, fLen, fTuple, fAbs, fIsi, tyN, isB, okI, fInt, fDiv, fMod, *]
  have c2 : dBin fIx (dCall0 m__law_backs) (dBin fMod (dBin fIx (dVar 0) (dC (.int 0))) (dC (.int 17))) [some (.lst (L.map D.int)), none, none, none, none] = .ok (backT b) := by
    simp [runD, toRes, dSeq, dSet, setR, onD, dVar, dC, dBin, dUn, dCall, dCall0, dCons, dNil, dStar, itemsD, dTup, dLst, dRet, dIfS, dNx, dTst, dTru, truD, dNotT, dAndT, dOrT, dAndV, dOrV, dNotE, dIf, dChain, dWalk, walkD, dRng1, dRng2, Res.bind, dAsg, gT, Dn.gCons, Dn.gNil, gN, dUpd, isLst, updK, fApp, fAdd, fSub, fMul, fLt, fLe, fGt, fGe, fLen, fTuple, fAbs, fIsi, tyN, isB, okI, fInt, fDiv, fMod, backs_t, fIx, hx0', ej, eb]
  have c3 : dCall 1 m__law_forms (dCons (dVar 1) dNil) [some (.lst (L.map D.int)), some (backT b), none, none, none] = .ok (.lst ((formsN b).map trioD)) := by
    exact (call_eq (ds := [backT b]) rfl rfl).trans (forms_t hb)
  refine run_rt ?_
  show b__law_any_book [some (.lst (L.map D.int)), none, none, none, none] = _
  unfold b__law_any_book
  rw [seq_nx (set_ok c2 (by simp))]
  rw [seq_nx (ρ' := [some (.lst (L.map D.int)), some (backT b), some (.lst ((formsN b).map trioD)), none, none]) (set_ok c3 (by simp))]
  rw [seq_nx (ρ' := [some (.lst (L.map D.int)), some (backT b), some (.lst ((formsN b).map trioD)), some (.lst []), none]) (set_ok (d := .lst []) (by simp [runD, toRes, dSeq, dSet, setR, onD, dVar, dC, dBin, dUn, dCall, dCall0, dCons, dNil, dStar, itemsD, dTup, dLst, dRet, dIfS, dNx, dTst, dTru, truD, dNotT, dAndT, dOrT, dAndV, dOrV, dNotE, dIf, dChain, dWalk, walkD, dRng1, dRng2, Res.bind, dAsg, gT, Dn.gCons, Dn.gNil, gN, dUpd, isLst, updK, fApp, fAdd, fSub, fMul, fLt, fLe, fGt, fGe, fLen, fTuple, fAbs, fIsi, tyN, isB, okI, fInt, fDiv, fMod]) (by simp))]
  rw [seq_nx ((for_eq c1).trans h1)]
  refine seq_rt (ret_ok ?_)
  simp [runD, toRes, dSeq, dSet, setR, onD, dVar, dC, dBin, dUn, dCall, dCall0, dCons, dNil, dStar, itemsD, dTup, dLst, dRet, dIfS, dNx, dTst, dTru, truD, dNotT, dAndT, dOrT, dAndV, dOrV, dNotE, dIf, dChain, dWalk, walkD, dRng1, dRng2, Res.bind, dAsg, gT, Dn.gCons, Dn.gNil, gN, dUpd, isLst, updK, fApp, fAdd, fSub, fMul, fLt, fLe, fGt, fGe, fLen, fTuple, fAbs, fIsi, tyN, isB, okI, fInt, fDiv, fMod, hts, backD, barD, backT]
end K87

namespace K87
open PySem L2 Dn
open SX (S)
theorem beq_trio (s t : Nat × Nat × Nat) : beqD (trioD s) (trioD t) = decide (s = t) := by
  obtain ⟨a, b, c⟩ := s
  obtain ⟨a', b', c'⟩ := t
  simp only [trioD, beqD, beqDs, Bool.and_true, Prod.mk.injEq]
  by_cases h1 : a = a' <;> by_cases h2 : b = b' <;> by_cases h3 : c = c' <;> simp [h1, h2, h3] <;> omega
theorem any_trio (u : Nat × Nat × Nat) : ∀ ts : List (Nat × Nat × Nat), ((ts.map trioD).any fun y => beqD y (trioD u)) = ts.contains u
  | [] => rfl
  | t :: ts => by
    rw [List.map_cons, List.any_cons, any_trio u ts, beq_trio, List.contains_cons]
    by_cases h : t = u
    · simp [h]
    · have : ¬ u = t := fun z => h z.symm
      simp [h, this]
theorem dLc_eq {di : Rho → Res (List D)} {vs : List Nat} {g : RhoG} {te : Rho → Res D} {ρ : Rho} {ds : List D} (F : D → D) (e : di ρ = .ok ds) (h : ∀ d ∈ ds, ∃ ρ1, g d (wipeR ρ vs) = some ρ1 ∧ te ρ1 = .ok (F d)) : dLc di vs g dYes te ρ = .ok (.lst (ds.map F)) := by
  unfold dLc
  rw [e]
  show (lcD g dYes te (wipeR ρ vs) ds).bind _ = _
  rw [lcD_map F h]
  rfl
theorem fAll_true : ∀ ds : List D, fAll (.lst (ds.map fun _ => D.bl true)) = .ok (.bl true) := fun ds => by
  rw [fAll_map (fun _ => true)]
  simp
theorem below_t {b : List Nat} {t : Nat × Nat × Nat} (h : t ∈ allTrios b.length) : m_are_below [trioD t, .int 3, .int b.length] = .ok (.bl true) := by
  have := mem_trios.mp h
  exact are_below_3 _ _ _ _ ⟨by omega, by omega, by omega, by omega, by omega, by omega⟩
theorem min_call {b : List Nat} (h : b ∈ backs17) {t : Nat × Nat × Nat} (ht : t ∈ allTrios b.length) : ∃ q, m_orders_of [backT b, trioD t] = .ok q ∧ fMin q = .ok (trioD (formN b t)) := by
  have e := min_t h ht
  cases q : m_orders_of [backT b, trioD t] with
  | ok d => rw [q] at e; exact ⟨d, rfl, e⟩
  | exc c p => rw [q] at e; cases e
  | bad => rw [q] at e; cases e
theorem are_barred_t {b : Bk} (g : Good b) : m_are_barred [backD b, barD b] = .ok (.bl true) := by
  have w1 : dWalk (dVar 1) [some (backD b), some (barD b), none, none] = .ok (b.bar.map trioD) := rfl
  have e1 : c1_are_barred [some (backD b), some (barD b), none, none] = .ok (.lst ((b.bar.map trioD).map fun _ => D.bl true)) := by
    refine dLc_eq _ w1 fun d hd => ?_
    obtain ⟨t, ht, rfl⟩ := List.mem_map.mp hd
    refine ⟨_, rfl, ?_⟩
    have := below_t (g.mem t ht)
    refine (call_eq (ds := [trioD t, .int 3, .int b.back.length]) ?_ rfl).trans this
    simp [runD, toRes, dSeq, dSet, setR, onD, dVar, dC, dBin, dUn, dCall, dCall0, dCons, dNil, dStar, itemsD, dTup, dLst, dRet, dIfS, dNx, dTst, dTru, truD, dNotT, dAndT, dOrT, dAndV, dOrV, dNotE, dIf, dChain, dWalk, walkD, dRng1, dRng2, Res.bind, dAsg, gT, Dn.gCons, Dn.gNil, gN, dUpd, isLst, updK, fApp, fAdd, fSub, fMul, fLt, fLe, fGt, fGe, fLen, fTuple, fAbs, fIsi, tyN, isB, okI, fInt, fDiv, fMod, backD, wipeR]
  have e2 : c2_are_barred [some (backD b), some (barD b), none, none] = .ok (.lst ((b.bar.map trioD).map fun _ => D.bl true)) := by
    refine dLc_eq _ w1 fun d hd => ?_
    obtain ⟨t, ht, rfl⟩ := List.mem_map.mp hd
    refine ⟨_, rfl, ?_⟩
    obtain ⟨q, h1, h2⟩ := min_call g.bk (g.mem t ht)
    rw [g.least t ht] at h2
    refine (bin_eq (x := trioD t) (y := trioD t) rfl ((un_eq ((call_eq (ds := [backT b.back, trioD t]) rfl rfl).trans h1)).trans h2)).trans ?_
    rw [fEq_sim rfl rfl (by simp [trioD, dep, deps]), beq_trio]
    simp
  have e3 : c3_are_barred [some (backD b), some (barD b), none, none] = .ok (.lst ((rng 1 (b.bar.length : Int)).map fun _ => D.bl true)) := by
    have hb := g.len
    refine dLc_eq _ ?_ fun d hd => ?_
    · have h1 : (b.bar.length : Int) - 1 ≤ 16777216 := by omega
      have h2 : (b.bar.length : Int) < 2 ^ 62 := by omega
      have h3 : -(2 ^ 62) ≤ (b.bar.length : Int) := by omega
      exact rng2_eq (i := 1) (j := b.bar.length) rfl (by simp [runD, toRes, dSeq, dSet, setR, onD, dVar, dC, dBin, dUn, dCall, dCall0, dCons, dNil, dStar, itemsD, dTup, dLst, dRet, dIfS, dNx, dTst, dTru, truD, dNotT, dAndT, dOrT, dAndV, dOrV, dNotE, dIf, dChain, dWalk, walkD, dRng1, dRng2, Res.bind, dAsg, gT, Dn.gCons, Dn.gNil, gN, dUpd, isLst, updK, fApp, fAdd, fSub, fMul, fLt, fLe, fGt, fGe, fLen, fTuple, fAbs, fIsi, tyN, isB, okI, fInt, fDiv, fMod, barD]) ⟨by decide, by decide, h3, h2, h1⟩
    · obtain ⟨j, hj, rfl⟩ := List.mem_map.mp hd
      have hj' : j + 1 < b.bar.length := by
        have := List.mem_range.mp hj
        omega
      refine ⟨_, rfl, ?_⟩
      have a1 : L2.atI (b.bar.map trioD) (1 + (j : Int) - 1) = some (trioD b.bar[j]) := by
        rw [show 1 + (j : Int) - 1 = (j : Nat) by omega, Dn.atI_nat (by rw [List.length_map]; omega), List.getElem_map]
      have a2 : L2.atI (b.bar.map trioD) (1 + (j : Int)) = some (trioD b.bar[j + 1]) := by
        rw [show 1 + (j : Int) = ((j + 1 : Nat) : Int) by omega, Dn.atI_nat (by rw [List.length_map]; omega), List.getElem_map]
      have x1 : dBin fIx (dVar 1) (dBin fSub (dVar 3) (dC (.int 1))) ((wipeR [some (backD b), some (barD b), none, none] [3]).set 3 (some (.int (1 + (j : Int))))) = .ok (trioD b.bar[j]) := by
        refine (bin_eq (x := barD b) (y := .int (1 + (j : Int) - 1)) rfl rfl).trans ?_
        show (match L2.atI (b.bar.map trioD) (1 + (j : Int) - 1) with | some d => Res.ok d | none => .bad) = _
        rw [a1]
      have x2 : dBin fIx (dVar 1) (dVar 3) ((wipeR [some (backD b), some (barD b), none, none] [3]).set 3 (some (.int (1 + (j : Int))))) = .ok (trioD b.bar[j + 1]) := by
        refine (bin_eq (x := barD b) (y := .int (1 + (j : Int))) rfl rfl).trans ?_
        show (match L2.atI (b.bar.map trioD) (1 + (j : Int)) with | some d => Res.ok d | none => .bad) = _
        rw [a2]
      refine (bin_eq x1 x2).trans ?_
      rw [lt_t (trios4 g.bk (g.mem _ (List.getElem_mem _))) (trios4 g.bk (g.mem _ (List.getElem_mem _)))]
      have := List.pairwise_iff_getElem.mp g.up j (j + 1) (by omega) hj' (by omega)
      rw [this]
  refine run_rt ?_
  show b_are_barred [some (backD b), some (barD b), none, none] = _
  unfold b_are_barred
  have f1 : dNotT (dTru (dUn (fIsi "tuple") (dVar 1))) [some (backD b), some (barD b), none, none] = .ok false := rfl
  have f2 : dNotT (dTru (dUn fAll c1_are_barred)) [some (backD b), some (barD b), none, none] = .ok false := not_eq (b := true) ((tru_eq ((un_eq e1).trans (fAll_true _))).trans rfl)
  have f3 : dNotT (dTru (dUn fAll c2_are_barred)) [some (backD b), some (barD b), none, none] = .ok false := not_eq (b := true) ((tru_eq ((un_eq e2).trans (fAll_true _))).trans rfl)
  rw [seq_nx (if_n ((or_f f1).trans f2)), seq_nx (if_n f3)]
  exact seq_rt (ret_ok ((un_eq e3).trans (fAll_true _)))
theorem nats_eq : ∀ {ds : List D} {ns : List Nat}, natsOf ds = some ns → ds = ns.map fun (n : Nat) => D.int n
  | [], ns, h => by cases h; rfl
  | d :: ds, ns, h => by
    cases d with
    | int i =>
      simp only [natsOf] at h
      split at h
      · rename_i hi
        cases e : natsOf ds with
        | none => rw [e] at h; cases h
        | some r =>
          rw [e] at h
          cases h
          rw [nats_eq e, List.map_cons]
          congr 2
          omega
      · cases h
    | _ => cases h
theorem trios_eq : ∀ {ds : List D} {ts : List (Nat × Nat × Nat)}, triosOf ds = some ts → ds = ts.map trioD
  | [], ts, h => by cases h; rfl
  | d :: ds, ts, h => by
    unfold triosOf at h
    split at h
    · cases h; simp at *
    · rename_i p q r ds' e
      cases e
      split at h
      · rename_i hz
        cases e : triosOf ds with
        | none => rw [e] at h; cases h
        | some l =>
          rw [e] at h
          cases h
          rw [trios_eq e, List.map_cons]
          simp [trioD]
          omega
      · cases h
    · cases h
theorem book_eq {x y : D} {b : Bk} (h : bookOf x y = some b) : x = backD b ∧ y = barD b := by
  unfold bookOf at h
  split at h
  · rename_i bs ts
    split at h
    · rename_i b' t' e1 e2
      cases h
      rw [nats_eq e1, trios_eq e2]
      exact ⟨rfl, rfl⟩
    · cases h
  · cases h
theorem spec_Book : BSpec b1_Book b2_Book bk_Book br_Book bt_Book m_Book := by
  intro x y
  unfold m_Book
  dsimp only
  cases e : bookOf x y with
  | none => trivial
  | some b =>
    dsimp only
    by_cases gb : goodBk b = true
    · rw [if_pos gb]
      obtain ⟨rfl, rfl⟩ := book_eq e
      have g := good_iff.mp gb
      refine ⟨b, rfl, rfl, rfl, by have := (len_t g.bk).2.1; omega, fun a => ⟨?_, ?_, by simp [bk_Book, runD, toRes, dSeq, dSet, setR, onD, dVar, dC, dBin, dUn, dCall, dCall0, dCons, dNil, dStar, itemsD, dTup, dLst, dRet, dIfS, dNx, dTst, dTru, truD, dNotT, dAndT, dOrT, dAndV, dOrV, dNotE, dIf, dChain, dWalk, walkD, dRng1, dRng2, Res.bind, dAsg, gT, Dn.gCons, Dn.gNil, gN, dUpd, isLst, updK, fApp, fAdd, fSub, fMul, fLt, fLe, fGt, fGe, fLen, fTuple, fAbs, fIsi, tyN, isB, okI, fInt, fDiv, fMod, backD, R3], ?_, fun t ht => ?_⟩⟩
      · exact if_n (not_eq (b := true) ((tru_eq ((call_eq (ds := [backT b.back]) rfl rfl).trans (is_back_t g.bk))).trans rfl))
      · exact if_n (not_eq (b := true) ((tru_eq ((call_eq (ds := [backD b, barD b]) rfl rfl).trans (are_barred_t g))).trans rfl))
      · refine (call_eq (ds := [.int 3, .int b.back.length]) ?_ rfl).trans (rows_t g.bk)
        simp [runD, toRes, dSeq, dSet, setR, onD, dVar, dC, dBin, dUn, dCall, dCall0, dCons, dNil, dStar, itemsD, dTup, dLst, dRet, dIfS, dNx, dTst, dTru, truD, dNotT, dAndT, dOrT, dAndV, dOrV, dNotE, dIf, dChain, dWalk, walkD, dRng1, dRng2, Res.bind, dAsg, gT, Dn.gCons, Dn.gNil, gN, dUpd, isLst, updK, fApp, fAdd, fSub, fMul, fLt, fLe, fGt, fGe, fLen, fTuple, fAbs, fIsi, tyN, isB, okI, fInt, fDiv, fMod, backD, R3]
      · obtain ⟨q, h1, h2⟩ := min_call g.bk ht
        refine tst_eq ((bin_eq (x := trioD (formN b.back t)) (y := barD b) ((un_eq ((call_eq (ds := [backT b.back, trioD t]) rfl rfl).trans h1)).trans h2) rfl).trans ?_)
        unfold fNotIn barD
        rw [inD_tup rfl (bars_sim _) (by simp [trioD, dep, deps]), any_trio]
        rfl
    · rw [if_neg gb]
      trivial
end K87

namespace K87
open PySem L2 Dn
open SX (S)
/-! ### texts -/
theorem s_kinds : ("kinds" : Str) = S [107, 105, 110, 100, 115] := by decide +kernel
theorem s_bar : ("bar" : Str) = S [98, 97, 114] := by decide +kernel
theorem s_barb : ("bar " : Str) = S [98, 97, 114, 32] := by decide +kernel
theorem s_sp : (" " : Str) = S [32] := by decide +kernel
theorem s_nl : ("\n" : Str) = S [10] := by decide +kernel
theorem s_no : ("" : Str) = S [] := by decide +kernel
abbrev wK : List Nat := [107, 105, 110, 100, 115]
abbrev wB : List Nat := [98, 97, 114]
def tn (t : Nat × Nat × Nat) : List Nat := [t.1, t.2.1, t.2.2]
def rowsL (b : Bk) : List (List Nat) := lineL wK b.back :: b.bar.map fun t => lineL wB (tn t)
def textL (b : Bk) : List Nat := (rowsL b).flatMap fun x => x ++ [10]
theorem m1_eq {f : Str → D → Res D} {da db : Rho → Res D} {ρ : Rho} {a : Str} {y : D} (e1 : da ρ = .ok (.str a)) (e2 : db ρ = .ok y) : dM1 f da db ρ = f a y := by
  unfold dM1
  rw [e1]
  show (db ρ).bind _ = _
  rw [e2]
  rfl
theorem join_eq {a : Str} {ds : List D} {ys : List Str} (e : strsD ds = some ys) (h : (ys.map (·.length)).sum + ys.length * a.length ≤ 16777216) : fJoin a (.lst ds) = .ok (.str (Txt.join a ys)) := by
  show joinD a ds = _
  unfold joinD
  rw [e]
  exact if_pos h
theorem sum_const {α : Type} (c : Nat) (f : α → Nat) : ∀ l : List α, (∀ x ∈ l, f x ≤ c) → (l.map f).sum ≤ l.length * c
  | [], _ => by simp
  | x :: l, h => by
    have h1 := h x List.mem_cons_self
    have h2 := sum_const c f l fun y hy => h y (List.mem_cons_of_mem _ hy)
    simp only [List.map_cons, List.sum_cons, List.length_cons, Nat.succ_mul]
    omega
def toSd (d : D) : D := match d with
  | .int i => .str (S (dgL i.toNat))
  | d => d
theorem toSd_map (ns : List Nat) : (ns.map fun (n : Nat) => D.int n).map toSd = ns.map fun n => D.str (S (dgL n)) := by
  rw [List.map_map]
  rfl
theorem line_of_t (w ns : List Nat) (hn : ∀ n ∈ ns, n < 10) (hl : ns.length ≤ 100) (hw : w.length ≤ 100) : m_line_of [.str (S w), .tup (ns.map fun (n : Nat) => D.int n)] = .ok (.str (S (lineL w ns ++ [10]))) := by
  have e1 : c1_line_of [some (.str (S w)), some (.tup (ns.map fun (n : Nat) => D.int n)), none] = .ok (.lst (ns.map fun n => D.str (S (dgL n)))) := by
    rw [← toSd_map]
    refine dLc_eq toSd rfl fun d hd => ?_
    obtain ⟨n, hn', rfl⟩ := List.mem_map.mp hd
    exact ⟨_, rfl, fStr_dg n (hn n hn')⟩
  have hsum : ((S w :: ns.map fun n => S (dgL n)).map (·.length)).sum ≤ 100 + ns.length * 1 := by
    have := sum_const 1 (fun n => (S (dgL n)).length) ns (fun n _ => by rw [Dn.S_len]; simp [dgL])
    simp only [List.map_cons, List.map_map, List.sum_cons, Function.comp_def, Dn.S_len] at this ⊢
    omega
  have e2 : dM1 fJoin (dC (.str " ")) (dLst (dCons (dVar 0) (dStar c1_line_of dNil))) [some (.str (S w)), some (.tup (ns.map fun (n : Nat) => D.int n)), none] = .ok (.str (S (lineL w ns))) := by
    have hcat : (S w :: (ns.map fun n => S (dgL n)) ++ []).length ≤ 16777216 := by simp; omega
    refine (m1_eq (a := S [32]) (y := .lst (D.str (S w) :: ((ns.map fun n => D.str (S (dgL n))) ++ []))) (by rw [← s_sp]; rfl) ?_).trans ?_
    · unfold dLst dCons dStar
      rw [e1]
      simp [runD, toRes, dSeq, dSet, setR, onD, dVar, dC, dBin, dUn, dCall, dCall0, dCons, dNil, dStar, itemsD, dTup, dLst, dRet, dIfS, dNx, dTst, dTru, truD, dNotT, dAndT, dOrT, dAndV, dOrV, dNotE, dIf, dChain, dWalk, walkD, dRng1, dRng2, Res.bind, dAsg, gT, Dn.gCons, Dn.gNil, gN, dUpd, isLst, updK, fApp, fAdd, fSub, fMul, fLt, fLe, fGt, fGe, fLen, fTuple, fAbs, fIsi, tyN, isB, okI, fInt, fDiv, fMod]
      omega
    · rw [join_eq (ys := S w :: ns.map fun n => S (dgL n)), join_line]
      · rw [List.append_nil]
        simp only [strsD, strsD_map]
        rfl
      · rw [Dn.S_len]
        simp only [List.length_cons, List.length_map, List.length_nil] at hsum ⊢
        omega
  refine run_rt ?_
  show b_line_of [some (.str (S w)), some (.tup (ns.map fun (n : Nat) => D.int n)), none] = _
  refine seq_rt (ret_ok ((bin_eq (y := .str (S [10])) e2 (by rw [← s_nl]; rfl)).trans ?_))
  show (if (S (lineL w ns)).length + (S [10]).length ≤ 16777216 then Res.ok (D.str (S (lineL w ns) ++ S [10])) else .bad) = _
  rw [if_pos, SX.S_cat]
  rw [Dn.S_len, Dn.S_len, lineL_len]
  simp
  omega
theorem rows_clean (b : Bk) : ∀ l ∈ rowsL b, 10 ∉ l := by
  intro l hl
  unfold rowsL at hl
  rcases List.mem_cons.mp hl with rfl | hl
  · exact line_clean (by decide) (by decide)
  · obtain ⟨t, _, rfl⟩ := List.mem_map.mp hl
    exact line_clean (by decide) (by decide)
theorem flat_len : ∀ ts : List (Nat × Nat × Nat), (ts.flatMap fun t => lineL wB (tn t) ++ [10]).length = ts.length * 10
  | [] => rfl
  | t :: ts => by
    have := flat_len ts
    simp only [List.flatMap_cons, List.length_append, lineL_len, List.length_cons, tn, List.length_nil] at this ⊢
    omega
theorem textL_eq (b : Bk) : textL b = (lineL wK b.back ++ [10]) ++ b.bar.flatMap fun t => lineL wB (tn t) ++ [10] := by
  unfold textL rowsL
  rw [List.flatMap_cons, List.flatMap_map]
theorem tn_lt {b : Bk} (g : Good b) {t : Nat × Nat × Nat} (ht : t ∈ b.bar) : ∀ n ∈ tn t, n < 10 := by
  have := mem_trios.mp (g.mem t ht)
  have := (len_t g.bk).1
  intro n hn
  simp [tn] at hn
  omega
theorem trio_tn (t : Nat × Nat × Nat) : trioD t = .tup ((tn t).map fun (n : Nat) => D.int n) := rfl
def toLd (d : D) : D := match d with
  | .tup [.int a, .int b, .int c] => .str (S (lineL wB [a.toNat, b.toNat, c.toNat] ++ [10]))
  | d => d
theorem book_text_t {b : Bk} (g : Good b) : m_book_text [.book b] = .ok (.str (S (textL b))) := by
  have hk := len_t g.bk
  have e1 : c1_book_text [some (.book b), none] = .ok (.lst (b.bar.map fun t => D.str (S (lineL wB (tn t) ++ [10])))) := by
    have : (b.bar.map fun t => D.str (S (lineL wB (tn t) ++ [10]))) = (b.bar.map trioD).map toLd := by
      rw [List.map_map]
      rfl
    rw [this]
    refine dLc_eq toLd rfl fun d hd => ?_
    obtain ⟨t, ht, rfl⟩ := List.mem_map.mp hd
    refine ⟨_, rfl, ?_⟩
    refine (call_eq (ds := [.str (S wB), trioD t]) (by rw [← s_bar]; rfl) rfl).trans ?_
    rw [trio_tn]
    exact line_of_t wB (tn t) (tn_lt g ht) (by simp [tn]) (by simp)
  have e2 : dM1 fJoin (dC (.str "")) c1_book_text [some (.book b), none] = .ok (.str (S (b.bar.flatMap fun t => lineL wB (tn t) ++ [10]))) := by
    refine (m1_eq (a := S []) (by rw [← s_no]; rfl) e1).trans ?_
    rw [join_eq (ys := b.bar.map fun t => S (lineL wB (tn t) ++ [10])) (strsD_map _ _)]
    · have : (b.bar.map fun t => S (lineL wB (tn t) ++ [10])) = (b.bar.map fun t => lineL wB (tn t) ++ [10]).map S := by rw [List.map_map]; rfl
      rw [this, SX.join_S, joinL_nil, ← List.flatMap_def]
    · have := sum_const 10 (fun t => (S (lineL wB (tn t) ++ [10])).length) b.bar (fun t _ => by rw [Dn.S_len, List.length_append, lineL_len]; simp [tn])
      have hl := g.len
      rw [List.map_map, Dn.S_len]
      simp only [Function.comp_def, List.length_nil, List.length_map] at this ⊢
      omega
  have e3 : dCall 2 m_line_of (dCons (dC (.str "kinds")) (dCons (dUn f_back (dVar 0)) dNil)) [some (.book b), none] = .ok (.str (S (lineL wK b.back ++ [10]))) :=
    (call_eq (ds := [.str (S wK), backD b]) (by rw [← s_kinds]; rfl) rfl).trans (line_of_t wK b.back (fun n hn => by have := hk.2.2 n hn; omega) (by omega) (by simp))
  refine run_rt (seq_rt (ret_ok ((bin_eq e3 e2).trans ?_)))
  show (if (S (lineL wK b.back ++ [10])).length + (S (b.bar.flatMap fun t => lineL wB (tn t) ++ [10])).length ≤ 16777216 then Res.ok (D.str (S (lineL wK b.back ++ [10]) ++ S (b.bar.flatMap fun t => lineL wB (tn t) ++ [10]))) else .bad) = _
  rw [if_pos, SX.S_cat, textL_eq]
  rw [Dn.S_len, Dn.S_len, flat_len, List.length_append, lineL_len]
  have hl := g.len
  simp
  omega
theorem law_text_t {b : Bk} (g : Good b) : m__law_text [backD b, barD b] = .ok (.str (S (textL b))) := by
  have hk := len_t g.bk
  have e1 : c1__law_text [some (backD b), some (barD b), none, none, none, none, none, none] = .ok (.lst (b.back.map fun n => D.str (S (dgL n)))) := by
    rw [← toSd_map]
    refine dLc_eq toSd rfl fun d hd => ?_
    obtain ⟨n, hn', rfl⟩ := List.mem_map.mp hd
    exact ⟨_, rfl, fStr_dg n (by have := hk.2.2 n hn'; omega)⟩
  have e2 : dBin fAdd (dLst (dCons (dC (.str "kinds")) dNil)) c1__law_text [some (backD b), some (barD b), none, none, none, none, none, none] = .ok (.lst (D.str (S wK) :: b.back.map fun n => D.str (S (dgL n)))) := by
    refine (bin_eq (x := .lst [.str (S wK)]) (by rw [← s_kinds]; rfl) e1).trans ?_
    exact if_pos (by simp; omega)
  have e3 : dBin fAdd (dM1 fJoin (dC (.str " ")) (dVar 2)) (dC (.str "\n")) [some (backD b), some (barD b), some (.lst (D.str (S wK) :: b.back.map fun n => D.str (S (dgL n)))), none, none, none, none, none] = .ok (.str (S (lineL wK b.back ++ [10]))) := by
    refine (bin_eq (x := .str (S (lineL wK b.back))) (y := .str (S [10])) ?_ (by rw [← s_nl]; rfl)).trans ?_
    · refine (m1_eq (a := S [32]) (by rw [← s_sp]; rfl) rfl).trans ?_
      rw [join_eq (ys := S wK :: b.back.map fun n => S (dgL n)), join_line]
      · simp only [strsD, strsD_map]
        rfl
      · have := sum_const 1 (fun n => (S (dgL n)).length) b.back (fun n _ => by rw [Dn.S_len]; simp [dgL])
        simp only [List.map_cons, List.map_map, List.sum_cons, Function.comp_def, Dn.S_len, List.length_cons, List.length_map, List.length_nil] at this ⊢
        omega
    · show (if (S (lineL wK b.back)).length + (S [10]).length ≤ 16777216 then Res.ok (D.str (S (lineL wK b.back) ++ S [10])) else .bad) = _
      rw [if_pos, SX.S_cat]
      rw [Dn.S_len, Dn.S_len, lineL_len]
      simp
      omega
  have hl := loop_for (g := gN 4) (db := l1__law_text) (ds := b.bar.map trioD) (ρ0 := [some (backD b), some (barD b), some (.lst (D.str (S wK) :: b.back.map fun n => D.str (S (dgL n)))), some (.str (S (lineL wK b.back ++ [10]))), none, none, none, none])
    (fun i ρ => ∃ q r, ρ = [some (backD b), some (barD b), some (.lst (D.str (S wK) :: b.back.map fun n => D.str (S (dgL n)))), some (.str (S ((lineL wK b.back ++ [10]) ++ (b.bar.take i).flatMap fun t => lineL wB (tn t) ++ [10]))), q, r, none, none]) ⟨none, none, by simp⟩ (by
    rintro i d ρ hd ⟨q, r, rfl⟩
    rw [List.getElem?_map] at hd
    obtain ⟨t, ht, rfl⟩ := Option.map_eq_some_iff.mp hd
    have hil : i < b.bar.length := (List.getElem?_eq_some_iff.mp ht).1
    have htm : t ∈ b.bar := List.mem_of_getElem? ht
    have tk : b.bar.take (i + 1) = b.bar.take i ++ [t] := by
      rw [List.take_add_one, ht]
      rfl
    refine ⟨_, rfl, ?_⟩
    generalize hA : (lineL wK b.back ++ [10]) ++ (b.bar.take i).flatMap (fun t => lineL wB (tn t) ++ [10]) = A
    have hA2 : A.length ≤ 1000 := by
      rw [← hA, List.length_append, flat_len, List.length_append, lineL_len, List.length_take]
      have hl := g.len
      have h4 := hk.1
      have e5 : wK.length = 5 := rfl
      have e6 : [10].length = 1 := rfl
      omega
    have c2 : c2__law_text [some (backD b), some (barD b), some (.lst (D.str (S wK) :: b.back.map fun n => D.str (S (dgL n)))), some (.str (S A)), some (trioD t), r, none, none] = .ok (.lst ((tn t).map fun n => D.str (S (dgL n)))) := by
      rw [← toSd_map]
      refine dLc_eq (ds := (tn t).map fun (n : Nat) => D.int n) toSd rfl fun d hd => ?_
      obtain ⟨n, hn', rfl⟩ := List.mem_map.mp hd
      exact ⟨_, rfl, fStr_dg n (tn_lt g htm n hn')⟩
    have hB : (lineL wK b.back ++ [10]) ++ (b.bar.take (i + 1)).flatMap (fun t => lineL wB (tn t) ++ [10]) = A ++ (lineL wB (tn t) ++ [10]) := by
      rw [tk, List.flatMap_append, ← hA]
      simp
    have hj : fJoin (S [32]) (.lst ((tn t).map fun n => D.str (S (dgL n)))) = .ok (.str (S (dgL t.1 ++ (32 :: dgL t.2.1 ++ (32 :: dgL t.2.2))))) := by
      rw [join_eq (ys := (tn t).map fun n => S (dgL n)) (strsD_map _ _)]
      · have : ((tn t).map fun n => S (dgL n)) = ((tn t).map dgL).map S := by rw [List.map_map]; rfl
        rw [this, SX.join_S]
        rfl
      · simp [tn, Dn.S_len, dgL]
    refine OkStep.of (r := .nx [some (backD b), some (barD b), some (.lst (D.str (S wK) :: b.back.map fun n => D.str (S (dgL n)))), some (.str (S (A ++ (lineL wB (tn t) ++ [10])))), some (trioD t), some (.lst ((tn t).map fun n => D.str (S (dgL n)))), none, none]) ?_ ⟨_, _, by rw [hB]⟩
    show l1__law_text [some (backD b), some (barD b), some (.lst (D.str (S wK) :: b.back.map fun n => D.str (S (dgL n)))), some (.str (S A)), some (trioD t), r, none, none] = _
    unfold l1__law_text
    rw [seq_nx (set_ok c2 (by simp))]
    have f1 : fAdd (.str (S A)) (.str (S [98, 97, 114, 32])) = .ok (.str (S (A ++ [98, 97, 114, 32]))) := by
      show (if (S A).length + (S [98, 97, 114, 32]).length ≤ 16777216 then Res.ok (D.str (S A ++ S [98, 97, 114, 32])) else .bad) = _
      rw [if_pos (by rw [Dn.S_len, Dn.S_len]; simp; omega), SX.S_cat]
    have f2 : fAdd (.str (S (A ++ [98, 97, 114, 32]))) (.str (S (dgL t.1 ++ (32 :: dgL t.2.1 ++ (32 :: dgL t.2.2))))) = .ok (.str (S ((A ++ [98, 97, 114, 32]) ++ (dgL t.1 ++ (32 :: dgL t.2.1 ++ (32 :: dgL t.2.2)))))) := by
      refine (if_pos (by rw [Dn.S_len, Dn.S_len]; simp [dgL]; omega)).trans ?_
      rw [SX.S_cat]
    have f3 : fAdd (.str (S ((A ++ [98, 97, 114, 32]) ++ (dgL t.1 ++ (32 :: dgL t.2.1 ++ (32 :: dgL t.2.2)))))) (.str (S [10])) = .ok (.str (S (((A ++ [98, 97, 114, 32]) ++ (dgL t.1 ++ (32 :: dgL t.2.1 ++ (32 :: dgL t.2.2)))) ++ [10]))) := by
      refine (if_pos (by rw [Dn.S_len, Dn.S_len]; simp [dgL]; omega)).trans ?_
      rw [SX.S_cat]
    have f4 : ((A ++ [98, 97, 114, 32]) ++ (dgL t.1 ++ (32 :: dgL t.2.1 ++ (32 :: dgL t.2.2)))) ++ [10] = A ++ (lineL wB (tn t) ++ [10]) := by
      simp [lineL, tn, dgL]
    rw [f4] at f3
    refine seq_nx (set_ok ((bin_eq ((bin_eq ((bin_eq (x := .str (S A)) (y := .str (S [98, 97, 114, 32])) rfl (by rw [← s_barb]; rfl)).trans f1) ((m1_eq (a := S [32]) (by rw [← s_sp]; rfl) rfl).trans hj)).trans f2) (y := .str (S [10])) (by rw [← s_nl]; rfl)).trans f3) (by simp)))
  obtain ⟨ρ', h1, q, r, rfl⟩ := hl
  rw [List.length_map, List.take_length] at h1
  refine run_rt ?_
  show b__law_text [some (backD b), some (barD b), none, none, none, none, none, none] = _
  unfold b__law_text
  rw [seq_nx (set_ok e2 (by simp))]
  rw [seq_nx (ρ' := [some (backD b), some (barD b), some (.lst (D.str (S wK) :: b.back.map fun n => D.str (S (dgL n)))), some (.str (S (lineL wK b.back ++ [10]))), none, none, none, none]) (set_ok e3 (by simp))]
  rw [seq_nx ((for_eq (ds := b.bar.map trioD) rfl).trans h1), textL_eq]
  exact seq_rt (ret_ok rfl)
end K87

namespace K87
open PySem L2 Dn
open SX (S)
/-! ### reading -/
theorem split_ok {a b : Str} {ls : List Str} (h : (b.length == 0) = false) (h2 : a.length + 2 ≤ 16777216) (e : Txt.split a b = ls) : fSplit a (.str b) = .ok (.lst (ls.map D.str)) := by
  unfold fSplit
  rw [← e]
  exact if_pos ⟨h, h2⟩
theorem textL_len {b : Bk} (g : Good b) : (textL b).length ≤ 1000 := by
  rw [textL_eq, List.length_append, flat_len, List.length_append, lineL_len]
  have hl := g.len
  have h4 := (len_t g.bk).1
  have e5 : wK.length = 5 := rfl
  have e6 : [10].length = 1 := rfl
  omega
theorem lines_t {b : Bk} (g : Good b) : m_lines_of [.str (S (textL b))] = .ok (.tup [.lst ((rowsL b).map fun l => D.str (S l)), .str (S [])]) := by
  have h := textL_len g
  have e1 : dM1 fSplit (dVar 0) (dC (.str "\n")) [some (.str (S (textL b))), none, none] = .ok (.lst (((rowsL b).map S ++ [S []]).map D.str)) :=
    (m1_eq (y := .str (S [10])) rfl (by rw [← s_nl]; rfl)).trans (split_ok (a := S (textL b)) (by decide) (by rw [Dn.S_len]; omega) (split_rows (rows_clean b)))
  have hl : (rowsL b).length ≤ 65 := by
    have := g.len
    unfold rowsL
    rw [List.length_cons, List.length_map]
    omega
  have e2 : starD 2 0 (((rowsL b).map S ++ [S []]).map D.str) = [.lst ((rowsL b).map fun l => D.str (S l)), .str (S [])] := by
    have e3 : ((rowsL b).map S ++ [S []]).map D.str = ((rowsL b).map fun l => D.str (S l)) ++ [D.str (S [])] := by
      rw [List.map_append, List.map_map]
      rfl
    rw [e3]
    unfold starD
    simp only [List.take_zero, List.drop_zero, List.nil_append, List.length_append, List.length_map, List.length_cons, List.length_nil]
    have e4 : (rowsL b).length + (0 + 1) + 1 - 2 = ((rowsL b).map fun l => D.str (S l)).length := by rw [List.length_map]; omega
    rw [e4, List.take_left, List.drop_left]
    rfl
  have e5 : dAsgS 2 0 (dM1 fSplit (dVar 0) (dC (.str "\n"))) (Dn.gCons (gN 1) (Dn.gCons (gN 2) Dn.gNil)) [some (.str (S (textL b))), none, none] = .nx [some (.str (S (textL b))), some (.lst ((rowsL b).map fun l => D.str (S l))), some (.str (S []))] := by
    unfold dAsgS onD
    rw [e1]
    dsimp only
    rw [if_pos (by simp; omega), e2]
    rfl
  refine run_rt ?_
  show b_lines_of [some (.str (S (textL b))), none, none] = _
  unfold b_lines_of
  rw [seq_nx (if_n rfl), seq_nx e5]
  exact seq_rt (ret_ok rfl)
theorem tab_in : ((List.range 10).all fun n => beqR ((fIn (.str (S (dgL n))) (.str "0123456789")).bind fun d => match d with | .bl k => .ok (.int (if k then 1 else 0)) | _ => .bad) (.ok (.int 1))) = true := by decide +kernel
theorem in_dg (n : Nat) (h : n < 10) : fIn (.str (S (dgL n))) (.str "0123456789") = .ok (.bl true) := by
  have e := beqR_eq (all_t tab_in (List.mem_range.mpr h))
  cases q : fIn (.str (S (dgL n))) (.str "0123456789") with
  | bad => rw [q] at e; cases e
  | exc c p => rw [q] at e; cases e
  | ok d =>
    rw [q] at e
    cases d with
    | bl k =>
      cases k with
      | true => rfl
      | false => simp [Res.bind] at e
    | _ => cases e
def toId (d : D) : D := match d with
  | .str x => .int ((x.cps.getD 0 0 : Nat) - 48 : Int)
  | d => d
theorem numbers_t (w ns : List Nat) (hn : ∀ n ∈ ns, n < 10) (hl : ns.length ≤ 100) (hw : w.length ≤ 100) (hw2 : 32 ∉ w) : m_numbers_of [.str (S (lineL w ns)), .str (S w)] = .ok (.tup (ns.map fun (n : Nat) => D.int n)) := by
  have e1 : dM1 fSplit (dVar 0) (dC (.str " ")) [some (.str (S (lineL w ns))), some (.str (S w)), none, none, none] = .ok (.lst ((S w :: ns.map fun n => S (dgL n)).map D.str)) :=
    (m1_eq (y := .str (S [32])) rfl (by rw [← s_sp]; rfl)).trans (split_ok (by decide) (by rw [Dn.S_len, lineL_len]; omega) (split_line hw2))
  have e2 : starD 2 1 ((S w :: ns.map fun n => S (dgL n)).map D.str) = [.str (S w), .lst (ns.map fun n => D.str (S (dgL n)))] := by
    have e3 : (S w :: ns.map fun n => S (dgL n)).map D.str = D.str (S w) :: ns.map fun n => D.str (S (dgL n)) := by
      rw [List.map_cons, List.map_map]
      rfl
    rw [e3]
    unfold starD
    simp [List.take_of_length_le]
  have e5 : dAsgS 2 1 (dM1 fSplit (dVar 0) (dC (.str " "))) (Dn.gCons (gN 2) (Dn.gCons (gN 3) Dn.gNil)) [some (.str (S (lineL w ns))), some (.str (S w)), none, none, none] = .nx [some (.str (S (lineL w ns))), some (.str (S w)), some (.str (S w)), some (.lst (ns.map fun n => D.str (S (dgL n)))), none] := by
    unfold dAsgS onD
    rw [e1]
    dsimp only
    rw [if_pos (by simp; omega), e2]
    rfl
  have e6 : c1_numbers_of [some (.str (S (lineL w ns))), some (.str (S w)), some (.str (S w)), some (.lst (ns.map fun n => D.str (S (dgL n)))), none] = .ok (.lst ((ns.map fun n => D.str (S (dgL n))).map fun _ => D.bl true)) := by
    refine dLc_eq (fun _ => .bl true) rfl fun d hd => ?_
    obtain ⟨n, hn', rfl⟩ := List.mem_map.mp hd
    refine ⟨_, rfl, ?_⟩
    have z1 : dBin fEq (dUn fLen (dVar 4)) (dC (.int 1)) ((wipeR [some (.str (S (lineL w ns))), some (.str (S w)), some (.str (S w)), some (.lst (ns.map fun n => D.str (S (dgL n)))), none] [4]).set 4 (some (.str (S (dgL n))))) = .ok (.bl true) :=
      (bin_eq (x := .int 1) (y := .int 1) rfl rfl).trans (by rw [fEq_int]; rfl)
    exact (andv_t z1).trans ((bin_eq (x := .str (S (dgL n))) rfl rfl).trans (in_dg n (hn n hn')))
  have e7 : c2_numbers_of [some (.str (S (lineL w ns))), some (.str (S w)), some (.str (S w)), some (.lst (ns.map fun n => D.str (S (dgL n)))), none] = .ok (.lst (ns.map fun (n : Nat) => D.int n)) := by
    have : (ns.map fun (n : Nat) => D.int n) = (ns.map fun n => D.str (S (dgL n))).map toId := by
      rw [List.map_map]
      refine List.map_congr_left fun n _ => ?_
      show D.int n = D.int (((48 + n : Nat) : Int) - 48)
      congr 1
      omega
    rw [this]
    refine dLc_eq toId rfl fun d hd => ?_
    obtain ⟨n, hn', rfl⟩ := List.mem_map.mp hd
    refine ⟨_, rfl, ?_⟩
    refine (fInt_dg n (hn n hn')).trans ?_
    show Res.ok (D.int n) = Res.ok (D.int (((48 + n : Nat) : Int) - 48))
    congr 2
    omega
  refine run_rt ?_
  show b_numbers_of [some (.str (S (lineL w ns))), some (.str (S w)), none, none, none] = _
  unfold b_numbers_of
  rw [seq_nx e5]
  have f1 : dTst (dBin fNe (dVar 2) (dVar 1)) [some (.str (S (lineL w ns))), some (.str (S w)), some (.str (S w)), some (.lst (ns.map fun n => D.str (S (dgL n)))), none] = .ok false :=
    tst_eq ((bin_eq (x := .str (S w)) (y := .str (S w)) rfl rfl).trans (by rw [fNe_str]; simp))
  have f2 : dNotT (dTru (dUn fAll c1_numbers_of)) [some (.str (S (lineL w ns))), some (.str (S w)), some (.str (S w)), some (.lst (ns.map fun n => D.str (S (dgL n)))), none] = .ok false :=
    not_eq (b := true) ((tru_eq ((un_eq e6).trans (fAll_true _))).trans rfl)
  rw [seq_nx (if_n ((or_f f1).trans f2))]
  exact seq_rt (ret_ok ((un_eq e7).trans rfl))
theorem rows_get {b : Bk} {i : Nat} (hi : i < (rowsL b).length) : (i = 0 ∧ (rowsL b)[i] = lineL wK b.back) ∨ ∃ (j : Nat) (hj : j < b.bar.length), i = j + 1 ∧ (rowsL b)[i] = lineL wB (tn b.bar[j]) := by
  cases i with
  | zero => exact .inl ⟨rfl, rfl⟩
  | succ j =>
    unfold rowsL at hi
    have hj : j < b.bar.length := by simpa using hi
    exact .inr ⟨j, hj, rfl, by simp [rowsL]⟩
theorem made_t {b : Bk} (g : Good b) : m_Book [backD b, barD b] = .ok (.book b) := by
  have n1 : ∀ ns : List Nat, natsOf (ns.map fun (n : Nat) => D.int n) = some ns := by
    intro ns
    induction ns with
    | nil => rfl
    | cons n ns ih =>
      simp only [List.map_cons, natsOf]
      rw [if_pos (by omega), ih]
      simp
  have n2 : ∀ ts : List (Nat × Nat × Nat), triosOf (ts.map trioD) = some ts := by
    intro ts
    induction ts with
    | nil => rfl
    | cons t ts ih =>
      simp only [List.map_cons, trioD, triosOf] at ih ⊢
      rw [if_pos ⟨by omega, by omega, by omega⟩, ih]
      simp
  have e : bookOf (backD b) (barD b) = some b := by
    unfold bookOf backD barD
    simp only [n1, n2]
  unfold m_Book
  simp only [e]
  rw [if_pos (good_iff.mpr g)]
def at3 (b : Bk) (i : Nat) : D := if i = 0 then .non else backD b
theorem read_t {b : Bk} (g : Good b) : m_read_book [.str (S (textL b))] = .ok (.book b) := by
  have hk := len_t g.bk
  have hlen : (rowsL b).length = b.bar.length + 1 := by simp [rowsL]
  have hbl := g.len
  have hb0 : b.back ≠ [] := by
    intro z
    have := g.bk
    rw [z] at this
    exact absurd this (by decide)
  generalize hX : (rowsL b).map (fun l => D.str (S l)) = X
  have hXl : X.length = (rowsL b).length := by rw [← hX, List.length_map]
  have hl := loop_for (g := gN 5) (db := l1_read_book) (ds := rng 0 ((rowsL b).length : Nat)) (ρ0 := [some (.str (S (textL b))), some (.lst X), some (.str (S [])), some .non, some (.lst []), none, none])
    (fun i ρ => ∃ q r, ρ = [some (.str (S (textL b))), some (.lst X), some (.str (S [])), some (at3 b i), some (.lst ((b.bar.take (i - 1)).map trioD)), q, r]) ⟨none, none, by simp [at3]⟩ (by
    rintro i d ρ hd ⟨q, r, rfl⟩
    obtain ⟨rfl, hi⟩ := rng_get hd
    refine ⟨_, rfl, ?_⟩
    have hx : L2.atI X (i : Int) = some (D.str (S (rowsL b)[i])) := by
      rw [Dn.atI_nat (by omega)]
      simp [← hX]
    rcases rows_get hi with ⟨rfl, er⟩ | ⟨j, hj, rfl, er⟩
    · have e1 : dCall 2 m_numbers_of (dCons (dBin fIx (dVar 1) (dVar 5)) (dCons (dIf (dTst (dBin fEq (dVar 5) (dC (.int 0)))) (dC (.str "kinds")) (dC (.str "bar"))) dNil)) [some (.str (S (textL b))), some (.lst X), some (.str (S [])), some (at3 b 0), some (.lst ((b.bar.take (0 - 1)).map trioD)), some (.int (0 : Nat)), r] = .ok (backD b) := by
        refine (call_eq (ds := [.str (S (lineL wK b.back)), .str (S wK)]) ?_ rfl).trans (numbers_t wK b.back (fun n hn => by have := hk.2.2 n hn; omega) (by omega) (by simp) (by decide))
        rw [← s_kinds, ← er]
        refine cons_eq ((bin_eq (x := .lst X) (y := .int (0 : Nat)) rfl rfl).trans ?_) (cons_eq ?_ rfl)
        · show (match L2.atI X ((0 : Nat) : Int) with | some d => Res.ok d | none => .bad) = _
          rw [hx]
        · unfold dIf
          rw [tst_eq ((bin_eq (x := .int (0 : Nat)) (y := .int 0) rfl rfl).trans (fEq_int _ _))]
          rfl
      refine OkStep.of (r := .nx [some (.str (S (textL b))), some (.lst X), some (.str (S [])), some (backD b), some (.lst []), some (.int (0 : Nat)), some (backD b)]) ?_ ⟨some (.int (0 : Nat)), some (backD b), by simp [at3]⟩
      show l1_read_book [some (.str (S (textL b))), some (.lst X), some (.str (S [])), some (at3 b 0), some (.lst ((b.bar.take (0 - 1)).map trioD)), some (.int (0 : Nat)), r] = _
      unfold l1_read_book
      rw [seq_nx (set_ok e1 (by simp))]
      have hne : (b.back.map fun (n : Nat) => D.int n).isEmpty = false := by
        cases h : b.back with
        | nil => exact absurd h hb0
        | cons x xs => rfl
      have k1 : truD (backD b) = .ok true := by
        show Res.ok (!(b.back.map fun (n : Nat) => D.int n).isEmpty) = _
        rw [hne]
        rfl
      simp [runD, toRes, dSeq, dSet, setR, onD, dVar, dC, dBin, dUn, dCall, dCall0, dCons, dNil, dStar, itemsD, dTup, dLst, dRet, dIfS, dNx, dTst, dTru, truD, dNotT, dAndT, dOrT, dAndV, dOrV, dNotE, dIf, dChain, dWalk, walkD, dRng1, dRng2, Res.bind, dAsg, gT, Dn.gCons, Dn.gNil, gN, dUpd, isLst, updK, fApp, fAdd, fSub, fMul, fLt, fLe, fGt, fGe, fLen, fTuple, fAbs, fIsi, tyN, isB, okI, fInt, fDiv, fMod, fIsN, backD] at k1 ⊢
      simp [k1, hb0]
    · have htm : b.bar[j] ∈ b.bar := List.getElem_mem _
      have e1 : dCall 2 m_numbers_of (dCons (dBin fIx (dVar 1) (dVar 5)) (dCons (dIf (dTst (dBin fEq (dVar 5) (dC (.int 0)))) (dC (.str "kinds")) (dC (.str "bar"))) dNil)) [some (.str (S (textL b))), some (.lst X), some (.str (S [])), some (at3 b (j + 1)), some (.lst ((b.bar.take (j + 1 - 1)).map trioD)), some (.int (j + 1 : Nat)), r] = .ok (trioD b.bar[j]) := by
        refine (call_eq (ds := [.str (S (lineL wB (tn b.bar[j]))), .str (S wB)]) ?_ rfl).trans (numbers_t wB (tn b.bar[j]) (tn_lt g htm) (by simp [tn]) (by simp) (by decide))
        rw [← s_bar, ← er]
        refine cons_eq ((bin_eq (x := .lst X) (y := .int (j + 1 : Nat)) rfl rfl).trans ?_) (cons_eq ?_ rfl)
        · show (match L2.atI X ((j + 1 : Nat) : Int) with | some d => Res.ok d | none => .bad) = _
          rw [hx]
        · unfold dIf
          have : decide (((j + 1 : Nat) : Int) = 0) = false := decide_eq_false (by omega)
          rw [tst_eq ((bin_eq (x := .int (j + 1 : Nat)) (y := .int 0) rfl rfl).trans (fEq_int _ _)), this]
          rfl
      refine OkStep.of (r := .nx [some (.str (S (textL b))), some (.lst X), some (.str (S [])), some (backD b), some (.lst (((b.bar.take j).map trioD) ++ [trioD b.bar[j]])), some (.int (j + 1 : Nat)), some (trioD b.bar[j])]) ?_ ⟨some (.int (j + 1 : Nat)), some (trioD b.bar[j]), by
        have tk : b.bar.take (j + 1 + 1 - 1) = b.bar.take j ++ [b.bar[j]] := by
          rw [show j + 1 + 1 - 1 = j + 1 by omega, List.take_add_one, List.getElem?_eq_getElem hj]
          rfl
        rw [tk, List.map_append]
        simp [at3]⟩
      show l1_read_book [some (.str (S (textL b))), some (.lst X), some (.str (S [])), some (at3 b (j + 1)), some (.lst ((b.bar.take (j + 1 - 1)).map trioD)), some (.int (j + 1 : Nat)), r] = _
      unfold l1_read_book
      rw [seq_nx (set_ok e1 (by simp))]
      have z1 : ¬ ((j : Int) + 1 = 0) := by omega
      have z2 : (0 : Int) < (j : Int) + 1 := by omega
      have z3 : j < 16777216 := by omega
      have z4 : min j b.bar.length < 16777216 := by omega
      simp [runD, toRes, dSeq, dSet, setR, onD, dVar, dC, dBin, dUn, dCall, dCall0, dCons, dNil, dStar, itemsD, dTup, dLst, dRet, dIfS, dNx, dTst, dTru, truD, dNotT, dAndT, dOrT, dAndV, dOrV, dNotE, dIf, dChain, dWalk, walkD, dRng1, dRng2, Res.bind, dAsg, gT, Dn.gCons, Dn.gNil, gN, dUpd, isLst, updK, fApp, fAdd, fSub, fMul, fLt, fLe, fGt, fGe, fLen, fTuple, fAbs, fIsi, tyN, isB, okI, fInt, fDiv, fMod, fIsN, trioD, z1, z2, z3, z4, at3])
  obtain ⟨ρ', h1, q, r, rfl⟩ := hl
  have e0 : at3 b (rng 0 ((rowsL b).length : Nat)).length = backD b := by
    have : (rng 0 ((rowsL b).length : Nat)).length = (rowsL b).length := by simp [rng]
    rw [this]
    unfold at3
    rw [if_neg (by omega)]
  have e9 : b.bar.take ((rng 0 ((rowsL b).length : Nat)).length - 1) = b.bar := by
    have : (rng 0 ((rowsL b).length : Nat)).length = (rowsL b).length := by simp [rng]
    rw [this]
    exact List.take_of_length_le (by omega)
  rw [e0, e9] at h1
  refine run_rt ?_
  show b_read_book [some (.str (S (textL b))), none, none, none, none, none, none] = _
  unfold b_read_book
  have a1 : dAsg (dCall 1 m_lines_of (dCons (dVar 0) dNil)) (gT 2 (Dn.gCons (gN 1) (Dn.gCons (gN 2) Dn.gNil))) [some (.str (S (textL b))), none, none, none, none, none, none] = .nx [some (.str (S (textL b))), some (.lst X), some (.str (S [])), none, none, none, none] := by
    refine asg_ok ((call_eq (ds := [.str (S (textL b))]) rfl rfl).trans (lines_t g)) ?_
    rw [hX]
    rfl
  rw [seq_nx a1]
  rw [seq_nx (ρ' := [some (.str (S (textL b))), some (.lst X), some (.str (S [])), some .non, some (.lst []), none, none]) (by simp [dParF, runD, toRes, dSeq, dSet, setR, onD, dVar, dC, dBin, dUn, dCall, dCall0, dCons, dNil, dStar, itemsD, dTup, dLst, dRet, dIfS, dNx, dTst, dTru, truD, dNotT, dAndT, dOrT, dAndV, dOrV, dNotE, dIf, dChain, dWalk, walkD, dRng1, dRng2, Res.bind, dAsg, gT, Dn.gCons, Dn.gNil, gN, dUpd, isLst, updK, fApp, fAdd, fSub, fMul, fLt, fLe, fGt, fGe, fLen, fTuple, fAbs, fIsi, tyN, isB, okI, fInt, fDiv, fMod])]
  have c1 : dRng1 (dUn fLen (dVar 1)) [some (.str (S (textL b))), some (.lst X), some (.str (S [])), some .non, some (.lst []), none, none] = .ok (rng 0 ((rowsL b).length : Nat)) :=
    rng1_eq (by show Res.ok (D.int X.length) = _; rw [hXl]) (by omega) (by omega)
  rw [seq_nx ((for_eq c1).trans h1)]
  have t1 : dOrT (dTst (dBin fNe (dVar 2) (dC (.str "")))) (dNotT (dTru (dVar 1))) [some (.str (S (textL b))), some (.lst X), some (.str (S [])), some (backD b), some (.lst (b.bar.map trioD)), q, r] = .ok false := by
    have f1 : dTst (dBin fNe (dVar 2) (dC (.str ""))) [some (.str (S (textL b))), some (.lst X), some (.str (S [])), some (backD b), some (.lst (b.bar.map trioD)), q, r] = .ok false :=
      tst_eq ((bin_eq (x := .str (S [])) (y := .str (S [])) rfl (by rw [← s_no]; rfl)).trans (by rw [fNe_str]; simp))
    refine (or_f f1).trans (not_eq (b := true) ?_)
    show Res.ok (!X.isEmpty) = _
    rw [← hX]
    rfl
  rw [seq_nx (if_n t1)]
  refine seq_rt (ret_ok ((call_eq (ds := [backD b, barD b]) ?_ rfl).trans (made_t g)))
  refine cons_eq rfl (cons_eq ?_ rfl)
  refine (un_eq (x := .lst (b.bar.map trioD)) rfl).trans ?_
  rfl
end K87

namespace K87
open PySem L2 Dn
open SX (S)
/-! ### the law -/
theorem nats_of : ∀ ns : List Nat, natsOf (ns.map fun (n : Nat) => D.int n) = some ns
  | [] => rfl
  | n :: ns => by
    simp only [List.map_cons, natsOf]
    rw [if_pos (by omega), nats_of ns]
    simp
theorem trios_of : ∀ ts : List (Nat × Nat × Nat), triosOf (ts.map trioD) = some ts
  | [] => rfl
  | t :: ts => by
    have := trios_of ts
    simp only [List.map_cons, trioD, triosOf] at this ⊢
    rw [if_pos ⟨by omega, by omega, by omega⟩, this]
    simp
theorem back_inj {b c : Bk} : backD b = backD c ↔ b.back = c.back := by
  constructor
  · intro h
    have h := D.tup.inj h
    have := congrArg natsOf h
    rw [nats_of, nats_of] at this
    exact Option.some.inj this
  · intro h
    unfold backD
    rw [h]
theorem bar_inj {b c : Bk} : barD b = barD c ↔ b.bar = c.bar := by
  constructor
  · intro h
    have h := D.tup.inj h
    have := congrArg triosOf h
    rw [trios_of, trios_of] at this
    exact Option.some.inj this
  · intro h
    unfold barD
    rw [h]
theorem back_sim (b : Bk) : simD (backD b) = true ∧ dep (backD b) ≤ 60 := by
  have := nats_dep b.back
  refine ⟨nats_sim b.back, ?_⟩
  simp only [backD, dep]
  omega
theorem bar_sim (b : Bk) : simD (barD b) = true ∧ dep (barD b) ≤ 60 := by
  have := bars_dep b.bar
  refine ⟨bars_sim b.bar, ?_⟩
  simp only [barD, dep]
  omega
theorem eq_back (b c : Bk) : fEq (backD b) (backD c) = .ok (.bl (decide (b.back = c.back))) := by
  rw [fEq_sim (back_sim b).1 (back_sim c).1 (back_sim b).2]
  have : beqD (backD b) (backD c) = decide (b.back = c.back) := by
    by_cases h : b.back = c.back
    · rw [back_inj.mpr h, beqD_refl (back_sim c).1, decide_eq_true h]
    · rw [decide_eq_false h]
      cases q : beqD (backD b) (backD c) with
      | false => rfl
      | true => exact absurd (back_inj.mp (beqD_eq q)) h
  rw [this]
theorem eq_bar (b c : Bk) : fEq (barD b) (barD c) = .ok (.bl (decide (b.bar = c.bar))) := by
  rw [fEq_sim (bar_sim b).1 (bar_sim c).1 (bar_sim b).2]
  have : beqD (barD b) (barD c) = decide (b.bar = c.bar) := by
    by_cases h : b.bar = c.bar
    · rw [bar_inj.mpr h, beqD_refl (bar_sim c).1, decide_eq_true h]
    · rw [decide_eq_false h]
      cases q : beqD (barD b) (barD c) with
      | false => rfl
      | true => exact absurd (bar_inj.mp (beqD_eq q)) h
  rw [this]
theorem ne_back (b : Bk) : fNe (backD b) (backD b) = .ok (.bl false) := by
  rw [fNe_sim (back_sim b).1 (back_sim b).1 (back_sim b).2, beqD_refl (back_sim b).1]
  rfl
theorem ne_bar (b : Bk) : fNe (barD b) (barD b) = .ok (.bl false) := by
  rw [fNe_sim (bar_sim b).1 (bar_sim b).1 (bar_sim b).2, beqD_refl (bar_sim b).1]
  rfl
theorem bk_dec (b c : Bk) : decide (b = c) = (decide (b.back = c.back) && decide (b.bar = c.bar)) := by
  obtain ⟨x, y⟩ := b
  obtain ⟨x', y'⟩ := c
  by_cases h1 : x = x' <;> by_cases h2 : y = y' <;> simp [h1, h2]
theorem bookeq_t (b c : Bk) : m_BookEq [.book b, .book c] = .ok (.bl (decide (b = c))) := by
  refine run_rt ?_
  show b_BookEq [some (.book b), some (.book c)] = _
  refine seq_rt (ret_ok ?_)
  refine (andv_t rfl).trans ?_
  rw [bk_dec]
  have e1 : dBin fEq (dUn f_back (dVar 0)) (dUn f_back (dVar 1)) [some (.book b), some (.book c)] = .ok (.bl (decide (b.back = c.back))) := (bin_eq (x := backD b) (y := backD c) rfl rfl).trans (eq_back b c)
  have e2 : dBin fEq (dUn f_barred (dVar 0)) (dUn f_barred (dVar 1)) [some (.book b), some (.book c)] = .ok (.bl (decide (b.bar = c.bar))) := (bin_eq (x := barD b) (y := barD c) rfl rfl).trans (eq_bar b c)
  cases h : decide (b.back = c.back) with
  | true => rw [h] at e1; exact (andv_t e1).trans e2
  | false => rw [h] at e1; exact (andv_f e1)
theorem says_t (k : Bool) : m__law_says [.bl k, .bl k] = .ok (.bl true) := by
  refine run_rt ?_
  show b__law_says [some (.bl k), some (.bl k)] = _
  refine seq_rt (ret_ok ((andv_t rfl).trans ((bin_eq (x := .bl k) (y := .bl k) rfl rfl).trans ?_)))
  rw [fEq_bl]
  simp
theorem is_row_t {b : Bk} (g : Good b) {t : Nat × Nat × Nat} (h : t ∈ b.bar) : m__law_is_row [trioD t, .int 3, .int b.back.length] = .ok (.bl true) := by
  have hm := mem_trios.mp (g.mem t h)
  obtain ⟨n1, n2, n3⟩ := hm
  have num : ∀ i : Int, m__law_is_number [.int i] = .ok (.bl true) := fun i => rfl
  have k1 : ¬ ((t.1 : Int) < 0) := by omega
  have k2 : ¬ ((t.2.1 : Int) < 0) := by omega
  have k3 : ¬ ((t.2.2 : Int) < 0) := by omega
  have m1 : ¬ ((b.back.length : Int) ≤ t.1) := by omega
  have m2 : ¬ ((b.back.length : Int) ≤ t.2.1) := by omega
  have m3 : ¬ ((b.back.length : Int) ≤ t.2.2) := by omega
  have m1' : ¬ (b.back.length ≤ t.1) := by omega
  have m2' : ¬ (b.back.length ≤ t.2.1) := by omega
  have m3' : ¬ (b.back.length ≤ t.2.2) := by omega
  simp [m__law_is_row, b__law_is_row, runD, toRes, dSeq, dSet, setR, onD, dVar, dC, dBin, dUn, dCall, dCall0, dCons, dNil, dStar, itemsD, dTup, dLst, dRet, dIfS, dNx, dTst, dTru, truD, dNotT, dAndT, dOrT, dAndV, dOrV, dNotE, dIf, dChain, dWalk, walkD, dRng1, dRng2, Res.bind, dAsg, gT, Dn.gCons, Dn.gNil, gN, dUpd, isLst, updK, fApp, fAdd, fSub, fMul, fLt, fLe, fGt, fGe, fLen, fTuple, fAbs, fIsi, tyN, isB, okI, fInt, fDiv, fMod, dFor, onL, loopD, l1__law_is_row, trioD, num, k1, k2, k3, m1, m2, m3, m1', m2', m3']
theorem text_inj {b c : Bk} (gb : Good b) (gc : Good c) (h : S (textL b) = S (textL c)) : b = c := by
  have e1 := read_t gb
  rw [h, read_t gc] at e1
  cases e1
  rfl
theorem plain : ∀ ns : List Int, ns.length ≤ 63 → m_law [.scr ns] = .ok (.bl true) := by
  intro ns _
  obtain ⟨L, hL, hN⟩ := numbers ns 0
  obtain ⟨M, hM', hM⟩ := numbers ns 2
  obtain ⟨b, gb, hb⟩ := any_book L hL
  obtain ⟨c, gc, hc⟩ := any_book M hM'
  have htx : fEq (.str (S (textL c))) (.str (S (textL b))) = .ok (.bl (decide (b = c))) := by
    rw [fEq_str]
    by_cases h : b = c
    · subst h; simp
    · have : ¬ S (textL c) = S (textL b) := fun z => h (text_inj gc gb z).symm
      rw [decide_eq_false h, decide_eq_false this]
  have hbk : fBk id m_BookEq (.book c) (.book b) = .ok (.bl (decide (b = c))) := by
    unfold fBk
    dsimp only
    rw [bookeq_t]
    by_cases h : b = c
    · subst h; simp
    · have : ¬ c = b := fun z => h z.symm
      simp [h, this]
  refine run_rt ?_
  show b_law [some (.scr ns), none, none, none, none, none, none, none, none, none, none, none, none, none] = _
  unfold b_law
  refine Eq.trans (seq_nx (ρ' := [some (.scr ns), some (.lst (L.map D.int)), none, none, none, none, none, none, none, none, none, none, none, none]) (set_ok ((call_eq (ds := [.scr ns, .int (0 : Nat), .int 40]) rfl rfl).trans hN) (by simp))) ?_
  refine Eq.trans (seq_nx (ρ' := [some (.scr ns), some (.lst (L.map D.int)), some (.lst (M.map D.int)), none, none, none, none, none, none, none, none, none, none, none]) (set_ok ((call_eq (ds := [.scr ns, .int (2 : Nat), .int 40]) rfl rfl).trans hM) (by simp))) ?_
  refine Eq.trans (seq_nx (ρ' := [some (.scr ns), some (.lst (L.map D.int)), some (.lst (M.map D.int)), some (backD b), some (barD b), none, none, none, none, none, none, none, none, none]) (asg_ok ((call_eq (ds := [.lst (L.map D.int)]) rfl rfl).trans hb) rfl)) ?_
  refine Eq.trans (seq_nx (ρ' := [some (.scr ns), some (.lst (L.map D.int)), some (.lst (M.map D.int)), some (backD b), some (barD b), some (backD c), some (barD c), none, none, none, none, none, none, none]) (asg_ok ((call_eq (ds := [.lst (M.map D.int)]) rfl rfl).trans hc) rfl)) ?_
  refine Eq.trans (seq_nx (ρ' := [some (.scr ns), some (.lst (L.map D.int)), some (.lst (M.map D.int)), some (backD b), some (barD b), some (backD c), some (barD c), some (.str (S (textL b))), none, none, none, none, none, none]) (set_ok ((call_eq (ds := [backD b, barD b]) rfl rfl).trans (law_text_t gb)) (by simp))) ?_
  refine Eq.trans (seq_nx (ρ' := [some (.scr ns), some (.lst (L.map D.int)), some (.lst (M.map D.int)), some (backD b), some (barD b), some (backD c), some (barD c), some (.str (S (textL b))), some (.str (S (textL b))), none, none, none, none, none]) (set_ok ((call_eq (ds := [.book b]) (cons_eq ((call_eq (ds := [backD b, barD b]) rfl rfl).trans (made_t gb)) rfl) rfl).trans (book_text_t gb)) (by simp))) ?_
  refine Eq.trans (seq_nx (if_n ((or_f (not_eq (b := true) rfl)).trans (tst_eq ((bin_eq (x := .str (S (textL b))) (y := .str (S (textL b))) rfl rfl).trans (by rw [fNe_str]; simp)))))) ?_
  refine Eq.trans (seq_nx (ρ' := [some (.scr ns), some (.lst (L.map D.int)), some (.lst (M.map D.int)), some (backD b), some (barD b), some (backD c), some (barD c), some (.str (S (textL b))), some (.str (S (textL b))), some (.book b), none, none, none, none]) (set_ok ((call_eq (ds := [.str (S (textL b))]) rfl rfl).trans (read_t gb)) (by simp))) ?_
  refine Eq.trans (seq_nx (if_n ((or_f (not_eq (b := true) rfl)).trans ((or_f (not_eq (b := true) rfl)).trans (not_eq (b := true) rfl))))) ?_
  refine Eq.trans (seq_nx (if_n ((or_f (tst_eq ((bin_eq (x := backD b) (y := backD b) rfl rfl).trans (ne_back b)))).trans (tst_eq ((bin_eq (x := barD b) (y := barD b) rfl rfl).trans (ne_bar b)))))) ?_
  refine Eq.trans (seq_nx (if_n ((or_f (tst_eq ((bin_eq (x := .book b) (y := .book b) rfl ((call_eq (ds := [backD b, barD b]) rfl rfl).trans (made_t gb))).trans (by unfold fBk; dsimp only; rw [bookeq_t]; simp)))).trans (tst_eq ((bin_eq (x := .int b.back.length) (y := .int b.back.length) rfl (by simp [runD, toRes, dSeq, dSet, setR, onD, dVar, dC, dBin, dUn, dCall, dCall0, dCons, dNil, dStar, itemsD, dTup, dLst, dRet, dIfS, dNx, dTst, dTru, truD, dNotT, dAndT, dOrT, dAndV, dOrV, dNotE, dIf, dChain, dWalk, walkD, dRng1, dRng2, Res.bind, dAsg, gT, Dn.gCons, Dn.gNil, gN, dUpd, isLst, updK, fApp, fAdd, fSub, fMul, fLt, fLe, fGt, fGe, fLen, fTuple, fAbs, fIsi, tyN, isB, okI, fInt, fDiv, fMod, backD])).trans (by rw [fNe_int]; simp)))))) ?_
  have hl := loop_for (g := gN 10) (db := l1_law) (ds := b.bar.map trioD) (ρ0 := [some (.scr ns), some (.lst (L.map D.int)), some (.lst (M.map D.int)), some (backD b), some (barD b), some (backD c), some (barD c), some (.str (S (textL b))), some (.str (S (textL b))), some (.book b), none, none, none, none])
    (fun i ρ => ∃ q, ρ = [some (.scr ns), some (.lst (L.map D.int)), some (.lst (M.map D.int)), some (backD b), some (barD b), some (backD c), some (barD c), some (.str (S (textL b))), some (.str (S (textL b))), some (.book b), q, none, none, none]) ⟨_, rfl⟩ (by
    rintro i d ρ hd ⟨q, rfl⟩
    rw [List.getElem?_map] at hd
    obtain ⟨t, ht, rfl⟩ := Option.map_eq_some_iff.mp hd
    refine ⟨_, rfl, OkStep.of (seq_nx (if_n (not_eq (b := true) ((tru_eq ((call_eq (ds := [trioD t, .int 3, .int b.back.length]) (by simp [runD, toRes, dSeq, dSet, setR, onD, dVar, dC, dBin, dUn, dCall, dCall0, dCons, dNil, dStar, itemsD, dTup, dLst, dRet, dIfS, dNx, dTst, dTru, truD, dNotT, dAndT, dOrT, dAndV, dOrV, dNotE, dIf, dChain, dWalk, walkD, dRng1, dRng2, Res.bind, dAsg, gT, Dn.gCons, Dn.gNil, gN, dUpd, isLst, updK, fApp, fAdd, fSub, fMul, fLt, fLe, fGt, fGe, fLen, fTuple, fAbs, fIsi, tyN, isB, okI, fInt, fDiv, fMod, backD]) rfl).trans (is_row_t gb (List.mem_of_getElem? ht)))).trans rfl)))) ⟨_, rfl⟩⟩)
  obtain ⟨ρ', h1, q, rfl⟩ := hl
  refine Eq.trans (seq_nx ((for_eq (ds := b.bar.map trioD) rfl).trans h1)) ?_
  have heq : dAndV (dBin fEq (dVar 3) (dVar 5)) (dBin fEq (dVar 4) (dVar 6)) [some (.scr ns), some (.lst (L.map D.int)), some (.lst (M.map D.int)), some (backD b), some (barD b), some (backD c), some (barD c), some (.str (S (textL b))), some (.str (S (textL b))), some (.book b), q, none, none, none] = .ok (.bl (decide (b = c))) := by
    rw [bk_dec]
    have e1 : dBin fEq (dVar 3) (dVar 5) [some (.scr ns), some (.lst (L.map D.int)), some (.lst (M.map D.int)), some (backD b), some (barD b), some (backD c), some (barD c), some (.str (S (textL b))), some (.str (S (textL b))), some (.book b), q, none, none, none] = .ok (.bl (decide (b.back = c.back))) := (bin_eq (x := backD b) (y := backD c) rfl rfl).trans (eq_back b c)
    have e2 : dBin fEq (dVar 4) (dVar 6) [some (.scr ns), some (.lst (L.map D.int)), some (.lst (M.map D.int)), some (backD b), some (barD b), some (backD c), some (barD c), some (.str (S (textL b))), some (.str (S (textL b))), some (.book b), q, none, none, none] = .ok (.bl (decide (b.bar = c.bar))) := (bin_eq (x := barD b) (y := barD c) rfl rfl).trans (eq_bar b c)
    cases h : decide (b.back = c.back) with
    | true => rw [h] at e1; exact (andv_t e1).trans e2
    | false => rw [h] at e1; exact (andv_f e1)
  refine Eq.trans (seq_nx (ρ' := [some (.scr ns), some (.lst (L.map D.int)), some (.lst (M.map D.int)), some (backD b), some (barD b), some (backD c), some (barD c), some (.str (S (textL b))), some (.str (S (textL b))), some (.book b), q, some (.bl (decide (b = c))), none, none]) (set_ok heq (by simp))) ?_
  refine Eq.trans (seq_nx (ρ' := [some (.scr ns), some (.lst (L.map D.int)), some (.lst (M.map D.int)), some (backD b), some (barD b), some (backD c), some (barD c), some (.str (S (textL b))), some (.str (S (textL b))), some (.book b), q, some (.bl (decide (b = c))), some (.book c), none]) (set_ok ((call_eq (ds := [backD c, barD c]) rfl rfl).trans (made_t gc)) (by simp))) ?_
  refine Eq.trans (seq_nx (if_n (tst_eq ((bin_eq (x := .bl (decide (b = c))) (y := .bl (decide (b = c))) ((bin_eq (x := .str (S (textL c))) (y := .str (S (textL b))) ((call_eq (ds := [.book c]) rfl rfl).trans (book_text_t gc)) rfl).trans htx) rfl).trans (by rw [fNe_bl]; simp))))) ?_
  refine Eq.trans (seq_nx (if_n (not_eq (b := true) ((tru_eq ((call_eq (ds := [.bl (decide (b = c)), .bl (decide (b = c))]) (cons_eq ((bin_eq (x := .book c) (y := .book b) rfl rfl).trans hbk) rfl) rfl).trans (says_t _))).trans rfl)))) ?_
  refine Eq.trans (seq_nx (ρ' := [some (.scr ns), some (.lst (L.map D.int)), some (.lst (M.map D.int)), some (backD b), some (barD b), some (backD c), some (barD c), some (.str (S (textL b))), some (.str (S (textL b))), some (.book b), q, some (.bl (decide (b = c))), some (.book c), some (.book c)]) (set_ok ((call_eq (ds := [.str (S (textL c))]) (cons_eq ((call_eq (ds := [.book c]) rfl rfl).trans (book_text_t gc)) rfl) rfl).trans (read_t gc)) (by simp))) ?_
  refine seq_rt (ret_ok ((andv_t ((bin_eq (x := barD c) (y := barD c) rfl rfl).trans ?_)).trans ((bin_eq (x := backD c) (y := backD c) rfl rfl).trans ?_)))
  · rw [eq_bar]; simp
  · rw [eq_back]; simp
end K87

namespace K87
open PySem L2 Dn
open PyProof.Rows hiding St
theorem all_mk {l : PySem.W.OpenLaw} {w : World} {K : PySem.W.Frag} {h : Heap} {mg : Str → Option Value} {fa C f0 f1 f2 f3 f4 f5 f6 f7 f8 f9 f10 f11 f12 f13 f14 f15 f16 f17 f18 f19 f20 f21 f22 f23 f24 f25 : Addr} (X : K.In h) (G : h.Ns mainGlobals mg) (hfa : mg "law" = some (.ref fa))
    {od0 an0 od1 an1 od2 an2 od3 an3 od4 an4 od5 an5 od6 an6 od7 an7 od8 an8 od9 an9 od10 an10 od11 an11 od12 an12 od13 an13 od14 an14 od15 an15 od16 an16 od17 an17 od18 an18 od19 an19 od20 an20 od21 an21 od22 an22 od23 an23 od24 an24 od25 an25 : Option Addr} {sl0 sl1 sl2 sl3 sl4 sl5 sl6 sl7 sl8 sl9 sl10 sl11 sl12 sl13 sl14 sl15 sl16 sl17 sl18 sl19 sl20 sl21 sl22 sl23 sl24 sl25 : Array (Option Value)} {oc0 kV0 dc0 pm0 cd0 ct0 oc1 kV1 dc1 pm1 cd1 ct1 oc2 kV2 dc2 pm2 cd2 ct2 oc3 kV3 dc3 pm3 cd3 ct3 oc4 kV4 dc4 pm4 cd4 ct4 oc5 kV5 dc5 pm5 cd5 ct5 oc6 kV6 dc6 pm6 cd6 ct6 oc7 kV7 dc7 pm7 cd7 ct7 oc8 kV8 dc8 pm8 cd8 ct8 oc9 kV9 dc9 pm9 cd9 ct9 oc10 kV10 dc10 pm10 cd10 ct10 oc11 kV11 dc11 pm11 cd11 ct11 oc12 kV12 dc12 pm12 cd12 ct12 oc13 kV13 dc13 pm13 cd13 ct13 oc14 kV14 dc14 pm14 cd14 ct14 oc15 kV15 dc15 pm15 cd15 ct15 oc16 kV16 dc16 pm16 cd16 ct16 oc17 kV17 dc17 pm17 cd17 ct17 oc18 kV18 dc18 pm18 cd18 ct18 oc19 kV19 dc19 pm19 cd19 ct19 oc20 kV20 dc20 pm20 cd20 ct20 oc21 kV21 dc21 pm21 cd21 ct21 oc22 kV22 dc22 pm22 cd22 ct22 oc23 kV23 dc23 pm23 cd23 ct23 oc24 kV24 dc24 pm24 cd24 ct24 oc25 kV25 dc25 pm25 cd25 ct25 : Value} {t_MOST_KINDS t_DIGITS : Tok}
    (aC : PySem.W.nsIn K mainGlobals "Book" = some (some (.ref C)))
    (a0 : PySem.W.nsIn K mainGlobals "_law_cell" = some (some (.ref f0)))
    (l0 : K.lookup f0 = some ⟨oc0, od0, .func (PySem.W.fnOf "_law_cell" "_law_cell" (defArgs s__law_cell) (defBody s__law_cell) (defScope s__law_cell) .none kV0 dc0 pm0 an0 cd0 ct0), sl0⟩)
    (c0 : PySem.W.codeIn K cd0 "_law_cell" = true)
    (k0 : PySem.W.keepIn K (.ref f0) = true)
    (a1 : PySem.W.nsIn K mainGlobals "_law_numbers" = some (some (.ref f1)))
    (l1 : K.lookup f1 = some ⟨oc1, od1, .func (PySem.W.fnOf "_law_numbers" "_law_numbers" (defArgs s__law_numbers) (defBody s__law_numbers) (defScope s__law_numbers) .none kV1 dc1 pm1 an1 cd1 ct1), sl1⟩)
    (c1 : PySem.W.codeIn K cd1 "_law_numbers" = true)
    (k1 : PySem.W.keepIn K (.ref f1) = true)
    (a2 : PySem.W.nsIn K mainGlobals "_law_tellings" = some (some (.ref f2)))
    (l2 : K.lookup f2 = some ⟨oc2, od2, .func (PySem.W.fnOf "_law_tellings" "_law_tellings" (defArgs s__law_tellings) (defBody s__law_tellings) (defScope s__law_tellings) .none kV2 dc2 pm2 an2 cd2 ct2), sl2⟩)
    (c2 : PySem.W.codeIn K cd2 "_law_tellings" = true)
    (k2 : PySem.W.keepIn K (.ref f2) = true)
    (a3 : PySem.W.nsIn K mainGlobals "_law_form" = some (some (.ref f3)))
    (l3 : K.lookup f3 = some ⟨oc3, od3, .func (PySem.W.fnOf "_law_form" "_law_form" (defArgs s__law_form) (defBody s__law_form) (defScope s__law_form) .none kV3 dc3 pm3 an3 cd3 ct3), sl3⟩)
    (c3 : PySem.W.codeIn K cd3 "_law_form" = true)
    (k3 : PySem.W.keepIn K (.ref f3) = true)
    (a4 : PySem.W.nsIn K mainGlobals "_law_forms" = some (some (.ref f4)))
    (l4 : K.lookup f4 = some ⟨oc4, od4, .func (PySem.W.fnOf "_law_forms" "_law_forms" (defArgs s__law_forms) (defBody s__law_forms) (defScope s__law_forms) .none kV4 dc4 pm4 an4 cd4 ct4), sl4⟩)
    (c4 : PySem.W.codeIn K cd4 "_law_forms" = true)
    (k4 : PySem.W.keepIn K (.ref f4) = true)
    (a5 : PySem.W.nsIn K mainGlobals "_law_backs" = some (some (.ref f5)))
    (l5 : K.lookup f5 = some ⟨oc5, od5, .func (PySem.W.fnOf "_law_backs" "_law_backs" (defArgs s__law_backs) (defBody s__law_backs) (defScope s__law_backs) .none kV5 dc5 pm5 an5 cd5 ct5), sl5⟩)
    (c5 : PySem.W.codeIn K cd5 "_law_backs" = true)
    (k5 : PySem.W.keepIn K (.ref f5) = true)
    (a6 : PySem.W.nsIn K mainGlobals "_law_any_book" = some (some (.ref f6)))
    (l6 : K.lookup f6 = some ⟨oc6, od6, .func (PySem.W.fnOf "_law_any_book" "_law_any_book" (defArgs s__law_any_book) (defBody s__law_any_book) (defScope s__law_any_book) .none kV6 dc6 pm6 an6 cd6 ct6), sl6⟩)
    (c6 : PySem.W.codeIn K cd6 "_law_any_book" = true)
    (k6 : PySem.W.keepIn K (.ref f6) = true)
    (a7 : PySem.W.nsIn K mainGlobals "_law_text" = some (some (.ref f7)))
    (l7 : K.lookup f7 = some ⟨oc7, od7, .func (PySem.W.fnOf "_law_text" "_law_text" (defArgs s__law_text) (defBody s__law_text) (defScope s__law_text) .none kV7 dc7 pm7 an7 cd7 ct7), sl7⟩)
    (c7 : PySem.W.codeIn K cd7 "_law_text" = true)
    (k7 : PySem.W.keepIn K (.ref f7) = true)
    (a8 : PySem.W.nsIn K mainGlobals "line_of" = some (some (.ref f8)))
    (l8 : K.lookup f8 = some ⟨oc8, od8, .func (PySem.W.fnOf "line_of" "line_of" (defArgs s_line_of) (defBody s_line_of) (defScope s_line_of) .none kV8 dc8 pm8 an8 cd8 ct8), sl8⟩)
    (c8 : PySem.W.codeIn K cd8 "line_of" = true)
    (k8 : PySem.W.keepIn K (.ref f8) = true)
    (a9 : PySem.W.nsIn K mainGlobals "book_text" = some (some (.ref f9)))
    (l9 : K.lookup f9 = some ⟨oc9, od9, .func (PySem.W.fnOf "book_text" "book_text" (defArgs s_book_text) (defBody s_book_text) (defScope s_book_text) .none kV9 dc9 pm9 an9 cd9 ct9), sl9⟩)
    (c9 : PySem.W.codeIn K cd9 "book_text" = true)
    (k9 : PySem.W.keepIn K (.ref f9) = true)
    (a10 : PySem.W.nsIn K mainGlobals "lines_of" = some (some (.ref f10)))
    (l10 : K.lookup f10 = some ⟨oc10, od10, .func (PySem.W.fnOf "lines_of" "lines_of" (defArgs s_lines_of) (defBody s_lines_of) (defScope s_lines_of) .none kV10 dc10 pm10 an10 cd10 ct10), sl10⟩)
    (c10 : PySem.W.codeIn K cd10 "lines_of" = true)
    (k10 : PySem.W.keepIn K (.ref f10) = true)
    (a11 : PySem.W.nsIn K mainGlobals "all_rows" = some (some (.ref f11)))
    (l11 : K.lookup f11 = some ⟨oc11, od11, .func (PySem.W.fnOf "all_rows" "all_rows" (defArgs s_all_rows) (defBody s_all_rows) (defScope s_all_rows) .none kV11 dc11 pm11 an11 cd11 ct11), sl11⟩)
    (c11 : PySem.W.codeIn K cd11 "all_rows" = true)
    (k11 : PySem.W.keepIn K (.ref f11) = true)
    (a12 : PySem.W.nsIn K mainGlobals "is_whole" = some (some (.ref f12)))
    (l12 : K.lookup f12 = some ⟨oc12, od12, .func (PySem.W.fnOf "is_whole" "is_whole" (defArgs s_is_whole) (defBody s_is_whole) (defScope s_is_whole) .none kV12 dc12 pm12 an12 cd12 ct12), sl12⟩)
    (c12 : PySem.W.codeIn K cd12 "is_whole" = true)
    (k12 : PySem.W.keepIn K (.ref f12) = true)
    (a13 : PySem.W.nsIn K mainGlobals "is_below" = some (some (.ref f13)))
    (l13 : K.lookup f13 = some ⟨oc13, od13, .func (PySem.W.fnOf "is_below" "is_below" (defArgs s_is_below) (defBody s_is_below) (defScope s_is_below) .none kV13 dc13 pm13 an13 cd13 ct13), sl13⟩)
    (c13 : PySem.W.codeIn K cd13 "is_below" = true)
    (k13 : PySem.W.keepIn K (.ref f13) = true)
    (a14 : PySem.W.nsIn K mainGlobals "is_back" = some (some (.ref f14)))
    (l14 : K.lookup f14 = some ⟨oc14, od14, .func (PySem.W.fnOf "is_back" "is_back" (defArgs s_is_back) (defBody s_is_back) (defScope s_is_back) .none kV14 dc14 pm14 an14 cd14 ct14), sl14⟩)
    (c14 : PySem.W.codeIn K cd14 "is_back" = true)
    (k14 : PySem.W.keepIn K (.ref f14) = true)
    (a15 : PySem.W.nsIn K mainGlobals "are_below" = some (some (.ref f15)))
    (l15 : K.lookup f15 = some ⟨oc15, od15, .func (PySem.W.fnOf "are_below" "are_below" (defArgs s_are_below) (defBody s_are_below) (defScope s_are_below) .none kV15 dc15 pm15 an15 cd15 ct15), sl15⟩)
    (c15 : PySem.W.codeIn K cd15 "are_below" = true)
    (k15 : PySem.W.keepIn K (.ref f15) = true)
    (a16 : PySem.W.nsIn K mainGlobals "orders_of" = some (some (.ref f16)))
    (l16 : K.lookup f16 = some ⟨oc16, od16, .func (PySem.W.fnOf "orders_of" "orders_of" (defArgs s_orders_of) (defBody s_orders_of) (defScope s_orders_of) .none kV16 dc16 pm16 an16 cd16 ct16), sl16⟩)
    (c16 : PySem.W.codeIn K cd16 "orders_of" = true)
    (k16 : PySem.W.keepIn K (.ref f16) = true)
    (a17 : PySem.W.nsIn K mainGlobals "are_barred" = some (some (.ref f17)))
    (l17 : K.lookup f17 = some ⟨oc17, od17, .func (PySem.W.fnOf "are_barred" "are_barred" (defArgs s_are_barred) (defBody s_are_barred) (defScope s_are_barred) .none kV17 dc17 pm17 an17 cd17 ct17), sl17⟩)
    (c17 : PySem.W.codeIn K cd17 "are_barred" = true)
    (k17 : PySem.W.keepIn K (.ref f17) = true)
    (a18 : PySem.W.findIn K (.ref C) "__init__" = some (some (.ref f18)))
    (i18 : PySem.W.isFn K (.ref f18) = true)
    (l18 : K.lookup f18 = some ⟨oc18, od18, .func (PySem.W.fnOf "__init__" "Book.__init__" (defArgs s_Book) (defBody s_Book) (defScope s_Book) .none kV18 dc18 pm18 an18 cd18 ct18), sl18⟩)
    (c18 : PySem.W.codeIn K cd18 "Book.__init__" = true)
    (k18 : PySem.W.keepIn K (.ref f18) = true)
    (a19 : PySem.W.nsIn K mainGlobals "numbers_of" = some (some (.ref f19)))
    (l19 : K.lookup f19 = some ⟨oc19, od19, .func (PySem.W.fnOf "numbers_of" "numbers_of" (defArgs s_numbers_of) (defBody s_numbers_of) (defScope s_numbers_of) .none kV19 dc19 pm19 an19 cd19 ct19), sl19⟩)
    (c19 : PySem.W.codeIn K cd19 "numbers_of" = true)
    (k19 : PySem.W.keepIn K (.ref f19) = true)
    (a20 : PySem.W.nsIn K mainGlobals "read_book" = some (some (.ref f20)))
    (l20 : K.lookup f20 = some ⟨oc20, od20, .func (PySem.W.fnOf "read_book" "read_book" (defArgs s_read_book) (defBody s_read_book) (defScope s_read_book) .none kV20 dc20 pm20 an20 cd20 ct20), sl20⟩)
    (c20 : PySem.W.codeIn K cd20 "read_book" = true)
    (k20 : PySem.W.keepIn K (.ref f20) = true)
    (a21 : PySem.W.findIn K (.ref C) "__eq__" = some (some (.ref f21)))
    (i21 : PySem.W.isFn K (.ref f21) = true)
    (l21 : K.lookup f21 = some ⟨oc21, od21, .func (PySem.W.fnOf "__eq__" "Book.__eq__" (defArgs s_BookEq) (defBody s_BookEq) (defScope s_BookEq) .none kV21 dc21 pm21 an21 cd21 ct21), sl21⟩)
    (c21 : PySem.W.codeIn K cd21 "Book.__eq__" = true)
    (k21 : PySem.W.keepIn K (.ref f21) = true)
    (a22 : PySem.W.nsIn K mainGlobals "_law_says" = some (some (.ref f22)))
    (l22 : K.lookup f22 = some ⟨oc22, od22, .func (PySem.W.fnOf "_law_says" "_law_says" (defArgs s__law_says) (defBody s__law_says) (defScope s__law_says) .none kV22 dc22 pm22 an22 cd22 ct22), sl22⟩)
    (c22 : PySem.W.codeIn K cd22 "_law_says" = true)
    (k22 : PySem.W.keepIn K (.ref f22) = true)
    (a23 : PySem.W.nsIn K mainGlobals "_law_is_number" = some (some (.ref f23)))
    (l23 : K.lookup f23 = some ⟨oc23, od23, .func (PySem.W.fnOf "_law_is_number" "_law_is_number" (defArgs s__law_is_number) (defBody s__law_is_number) (defScope s__law_is_number) .none kV23 dc23 pm23 an23 cd23 ct23), sl23⟩)
    (c23 : PySem.W.codeIn K cd23 "_law_is_number" = true)
    (k23 : PySem.W.keepIn K (.ref f23) = true)
    (a24 : PySem.W.nsIn K mainGlobals "_law_is_row" = some (some (.ref f24)))
    (l24 : K.lookup f24 = some ⟨oc24, od24, .func (PySem.W.fnOf "_law_is_row" "_law_is_row" (defArgs s__law_is_row) (defBody s__law_is_row) (defScope s__law_is_row) .none kV24 dc24 pm24 an24 cd24 ct24), sl24⟩)
    (c24 : PySem.W.codeIn K cd24 "_law_is_row" = true)
    (k24 : PySem.W.keepIn K (.ref f24) = true)
    (a25 : PySem.W.nsIn K mainGlobals "law" = some (some (.ref f25)))
    (l25 : K.lookup f25 = some ⟨oc25, od25, .func (PySem.W.fnOf "law" "law" (defArgs s_law) (defBody s_law) (defScope s_law) .none kV25 dc25 pm25 an25 cd25 ct25), sl25⟩)
    (c25 : PySem.W.codeIn K cd25 "law" = true)
    (k25 : PySem.W.keepIn K (.ref f25) = true)
    (z_len : PySem.W.nsIn K mainGlobals "len" = some none)
    (z_abs : PySem.W.nsIn K mainGlobals "abs" = some none)
    (z_range : PySem.W.nsIn K mainGlobals "range" = some none)
    (z_int_ : PySem.W.nsIn K mainGlobals "int" = some none)
    (z_min_ : PySem.W.nsIn K mainGlobals "min" = some none)
    (z_sorted : PySem.W.nsIn K mainGlobals "sorted" = some none)
    (z_tuple_ : PySem.W.nsIn K mainGlobals "tuple" = some none)
    (z_str_ : PySem.W.nsIn K mainGlobals "str" = some none)
    (z_isinstance : PySem.W.nsIn K mainGlobals "isinstance" = some none)
    (z_bool_ : PySem.W.nsIn K mainGlobals "bool" = some none)
    (z_all_ : PySem.W.nsIn K mainGlobals "all" = some none)
    (q_MOST_KINDS : PySem.W.nsIn K mainGlobals "MOST_KINDS" = some (some (.int 4 t_MOST_KINDS)))
    (q_DIGITS : PySem.W.nsIn K mainGlobals "DIGITS" = some (some (.str "0123456789" t_DIGITS)))
    (pg : PySem.W.plainGet K C Str.empty = true)
    (hd : PySem.W.hasDictIn K C = true)
    (po : PySem.W.plainOver K C = true)
    (sa : PySem.W.findIn K (.ref C) "__setattr__" = some (some (.builtin "object.__setattr__")))
    (mk : PySem.W.makesIn K C = true)
    (kc : PySem.W.keepIn K (.ref C) = true)
    (n1 : PySem.W.findIn K (.ref C) "back" = some none)
    (n2 : PySem.W.findIn K (.ref C) "barred" = some none)
    (n3 : PySem.W.findIn K (.ref C) "kinds" = some none)
    (n4 : PySem.W.findIn K (.ref C) "lets" = some none)
    (n5 : PySem.W.findIn K (.ref C) "known_knit" = some none)
    (zc : PySem.W.findIn K (.ref C) "__class__" = some (some (.builtin "object.__class__")))
    (zg : PySem.W.specialIn K (.builtin "object.__class__") "__get__" = some (some (.builtin "getset_descriptor.__get__")))
    (zt : PySem.W.takesIn K (.builtin "object.__class__") = some true)
    (zm : PySem.W.mroIn K C (.type "object") = some true)
    (zn : PySem.W.findIn K (.ref C) "__ne__" = some (some (.builtin "object.__ne__")))
    (plain : ∀ ns : List Int, ns.length ≤ 63 → m_law [.scr ns] = .ok (.bl true))
    : ∃ fd : FuncData, (∀ (s : Shared) (v : Value), BindsTo s fd ⟨[v], []⟩ [("script", v)]) ∧ ∀ base : Heap, K.In base → base.Ns mainGlobals mg → FnOk l.prog w K mg base (L2.CX l.prog w) 8 fa fd ["script"] (spLaw K) := by
  have e := hfa.symm.trans (PySem.W.mg_of X G a25)
  cases e
  have cl : Cls K C := ⟨pg, hd, po, sa⟩
  have T : Txt K mg C := ⟨PySem.W.mg_none_of X G z_len, PySem.W.mg_none_of X G z_abs, PySem.W.mg_none_of X G z_range, PySem.W.mg_none_of X G z_int_, PySem.W.mg_none_of X G z_min_, PySem.W.mg_none_of X G z_sorted, PySem.W.mg_none_of X G z_tuple_, PySem.W.mg_none_of X G z_str_, PySem.W.mg_none_of X G z_isinstance, PySem.W.mg_none_of X G z_bool_, PySem.W.mg_none_of X G z_all_, ⟨_, PySem.W.mg_of X G q_MOST_KINDS⟩, ⟨_, PySem.W.mg_of X G q_DIGITS⟩, ⟨cl, n1, n2, n3, n4, n5⟩, ⟨cl, zc, zg, zt, zm, PySem.W.mg_of X G aC, PySem.W.mg_none_of X G z_isinstance⟩⟩
  let Θ : Th := ⟨K, C, fun _ => false⟩
  have F0 := fun_mk (st := s__law_cell) l0 c0 k0
  have F1 := fun_mk (st := s__law_numbers) l1 c1 k1
  have F2 := fun_mk (st := s__law_tellings) l2 c2 k2
  have F3 := fun_mk (st := s__law_form) l3 c3 k3
  have F4 := fun_mk (st := s__law_forms) l4 c4 k4
  have F5 := fun_mk (st := s__law_backs) l5 c5 k5
  have F6 := fun_mk (st := s__law_any_book) l6 c6 k6
  have F7 := fun_mk (st := s__law_text) l7 c7 k7
  have F8 := fun_mk (st := s_line_of) l8 c8 k8
  have F9 := fun_mk (st := s_book_text) l9 c9 k9
  have F10 := fun_mk (st := s_lines_of) l10 c10 k10
  have F11 := fun_mk (st := s_all_rows) l11 c11 k11
  have F12 := fun_mk (st := s_is_whole) l12 c12 k12
  have F13 := fun_mk (st := s_is_below) l13 c13 k13
  have F14 := fun_mk (st := s_is_back) l14 c14 k14
  have F15 := fun_mk (st := s_are_below) l15 c15 k15
  have F16 := fun_mk (st := s_orders_of) l16 c16 k16
  have F17 := fun_mk (st := s_are_barred) l17 c17 k17
  have F18 := fun_mk (st := s_Book) l18 c18 k18
  have F19 := fun_mk (st := s_numbers_of) l19 c19 k19
  have F20 := fun_mk (st := s_read_book) l20 c20 k20
  have F21 := fun_mk (st := s_BookEq) l21 c21 k21
  have F22 := fun_mk (st := s__law_says) l22 c22 k22
  have F23 := fun_mk (st := s__law_is_number) l23 c23 k23
  have F24 := fun_mk (st := s__law_is_row) l24 c24 k24
  have F25 := fun_mk (st := s_law) l25 c25 k25
  have b0 := F0.binds (ps := ["script", "k"]) fun _ _ _ _ _ _ us hl => match us, hl with | [_, _], _ => rfl
  have b1 := F1.binds (ps := ["script", "at", "many"]) fun _ _ _ _ _ _ us hl => match us, hl with | [_, _, _], _ => rfl
  have b2 := F2.binds (ps := ["back", "p", "q", "r"]) fun _ _ _ _ _ _ us hl => match us, hl with | [_, _, _, _], _ => rfl
  have b3 := F3.binds (ps := ["back", "p", "q", "r"]) fun _ _ _ _ _ _ us hl => match us, hl with | [_, _, _, _], _ => rfl
  have b4 := F4.binds (ps := ["back"]) fun _ _ _ _ _ _ us hl => match us, hl with | [_], _ => rfl
  have b5 := F5.binds (ps := ([] : List Str)) fun _ _ _ _ _ _ us hl => match us, hl with | [], _ => rfl
  have b6 := F6.binds (ps := ["numbers"]) fun _ _ _ _ _ _ us hl => match us, hl with | [_], _ => rfl
  have b7 := F7.binds (ps := ["back", "barred"]) fun _ _ _ _ _ _ us hl => match us, hl with | [_, _], _ => rfl
  have b8 := F8.binds (ps := ["word", "numbers"]) fun _ _ _ _ _ _ us hl => match us, hl with | [_, _], _ => rfl
  have b9 := F9.binds (ps := ["book"]) fun _ _ _ _ _ _ us hl => match us, hl with | [_], _ => rfl
  have b10 := F10.binds (ps := ["text"]) fun _ _ _ _ _ _ us hl => match us, hl with | [_], _ => rfl
  have b11 := F11.binds (ps := ["many", "bound"]) fun _ _ _ _ _ _ us hl => match us, hl with | [_, _], _ => rfl
  have b12 := F12.binds (ps := ["thing"]) fun _ _ _ _ _ _ us hl => match us, hl with | [_], _ => rfl
  have b13 := F13.binds (ps := ["thing", "bound"]) fun _ _ _ _ _ _ us hl => match us, hl with | [_, _], _ => rfl
  have b14 := F14.binds (ps := ["thing"]) fun _ _ _ _ _ _ us hl => match us, hl with | [_], _ => rfl
  have b15 := F15.binds (ps := ["thing", "many", "bound"]) fun _ _ _ _ _ _ us hl => match us, hl with | [_, _, _], _ => rfl
  have b16 := F16.binds (ps := ["back", "trio"]) fun _ _ _ _ _ _ us hl => match us, hl with | [_, _], _ => rfl
  have b17 := F17.binds (ps := ["back", "thing"]) fun _ _ _ _ _ _ us hl => match us, hl with | [_, _], _ => rfl
  have b18 := F18.binds (ps := ["self", "back", "barred"]) fun _ _ _ _ _ _ us hl => match us, hl with | [_, _, _], _ => rfl
  have b19 := F19.binds (ps := ["line", "word"]) fun _ _ _ _ _ _ us hl => match us, hl with | [_, _], _ => rfl
  have b20 := F20.binds (ps := ["text"]) fun _ _ _ _ _ _ us hl => match us, hl with | [_], _ => rfl
  have b21 := F21.binds (ps := ["self", "other"]) fun _ _ _ _ _ _ us hl => match us, hl with | [_, _], _ => rfl
  have b22 := F22.binds (ps := ["told", "due"]) fun _ _ _ _ _ _ us hl => match us, hl with | [_, _], _ => rfl
  have b23 := F23.binds (ps := ["thing"]) fun _ _ _ _ _ _ us hl => match us, hl with | [_], _ => rfl
  have b24 := F24.binds (ps := ["thing", "many", "bound"]) fun _ _ _ _ _ _ us hl => match us, hl with | [_, _, _], _ => rfl
  refine ⟨PySem.W.fnOf "law" "law" (defArgs s_law) (defBody s_law) (defScope s_law) .none kV25 dc25 pm25 an25 cd25 ct25, fun s v => .of_eq rfl, fun base _ _ => ?_⟩
  have G0 := ok__law_cell (P := l.prog) (w := w) (base := base) (Θ := Θ) rfl T  F0 (PySem.W.mg_of X G a0) b0
  have G1 := ok__law_numbers (P := l.prog) (w := w) (base := base) (Θ := Θ) rfl T G0 F1 (PySem.W.mg_of X G a1) b1
  have G2 := ok__law_tellings (P := l.prog) (w := w) (base := base) (Θ := Θ) rfl T  F2 (PySem.W.mg_of X G a2) b2
  have G3 := ok__law_form (P := l.prog) (w := w) (base := base) (Θ := Θ) rfl T G2 F3 (PySem.W.mg_of X G a3) b3
  have G4 := ok__law_forms (P := l.prog) (w := w) (base := base) (Θ := Θ) rfl T G3 F4 (PySem.W.mg_of X G a4) b4
  have G5 := ok__law_backs (P := l.prog) (w := w) (base := base) (Θ := Θ) rfl T  F5 (PySem.W.mg_of X G a5) b5
  have G6 := ok__law_any_book (P := l.prog) (w := w) (base := base) (Θ := Θ) rfl T G5 G4 F6 (PySem.W.mg_of X G a6) b6
  have G7 := ok__law_text (P := l.prog) (w := w) (base := base) (Θ := Θ) rfl T  F7 (PySem.W.mg_of X G a7) b7
  have G8 := ok_line_of (P := l.prog) (w := w) (base := base) (Θ := Θ) rfl T  F8 (PySem.W.mg_of X G a8) b8
  have G9 := ok_book_text (P := l.prog) (w := w) (base := base) (Θ := Θ) rfl T G8 F9 (PySem.W.mg_of X G a9) b9
  have G10 := ok_lines_of (P := l.prog) (w := w) (base := base) (Θ := Θ) rfl T  F10 (PySem.W.mg_of X G a10) b10
  have G11 := ok_all_rows (P := l.prog) (w := w) (base := base) (Θ := Θ) rfl T  F11 (PySem.W.mg_of X G a11) b11
  have G12 := ok_is_whole (P := l.prog) (w := w) (base := base) (Θ := Θ) rfl T  F12 (PySem.W.mg_of X G a12) b12
  have G13 := ok_is_below (P := l.prog) (w := w) (base := base) (Θ := Θ) rfl T G12 F13 (PySem.W.mg_of X G a13) b13
  have G14 := ok_is_back (P := l.prog) (w := w) (base := base) (Θ := Θ) rfl T G13 F14 (PySem.W.mg_of X G a14) b14
  have G15 := ok_are_below (P := l.prog) (w := w) (base := base) (Θ := Θ) rfl T G13 F15 (PySem.W.mg_of X G a15) b15
  have G16 := ok_orders_of (P := l.prog) (w := w) (base := base) (Θ := Θ) rfl T  F16 (PySem.W.mg_of X G a16) b16
  have G17 := ok_are_barred (P := l.prog) (w := w) (base := base) (Θ := Θ) rfl T G15 G16 F17 (PySem.W.mg_of X G a17) b17
  have G18 : BOk l.prog w K mg base Θ 5 m_Book := ⟨f18, _, ⟨mk, a18, i18, kc⟩, PySem.W.mg_of X G aC, b18, ok_Book rfl T G14 G17 G11 G16 F18 spec_Book⟩
  have G19 := ok_numbers_of (P := l.prog) (w := w) (base := base) (Θ := Θ) rfl T  F19 (PySem.W.mg_of X G a19) b19
  have G20 := ok_read_book (P := l.prog) (w := w) (base := base) (Θ := Θ) rfl T G10 G19 G18 F20 (PySem.W.mg_of X G a20) b20
  have G21 : EqOk l.prog w K mg base Θ 1 m_BookEq := ⟨⟨f21, _, a21, i21, b21, ok_BookEq rfl T  F21⟩, zn, zm⟩
  have G22 := ok__law_says (P := l.prog) (w := w) (base := base) (Θ := Θ) rfl T  F22 (PySem.W.mg_of X G a22) b22
  have G23 := ok__law_is_number (P := l.prog) (w := w) (base := base) (Θ := Θ) rfl T  F23 (PySem.W.mg_of X G a23) b23
  have G24 := ok__law_is_row (P := l.prog) (w := w) (base := base) (Θ := Θ) rfl T G23 F24 (PySem.W.mg_of X G a24) b24
  exact law_imp (Θ := Θ) rfl (ok_law rfl T G1 G6 G7 G9 G18 G20 G21 G24 G22 F25) plain
end K87
open PySem PySem.W PyProof.Rows
set_option maxRecDepth 100000 in
set_option maxHeartbeats 0 in
theorem PySem.Challenge.cw_wishmet_k87_book_text_holds : PySem.Challenge.rw_wishmet_k87_book_text.Holds := by
  w_on; o_law; k_head; (case hw => w_witness2)
  k_fill
  refine L2.walk_of (l := PySem.Challenge.rw_wishmet_k87_book_text) (n := 63) (k := 8) (x := "script") (CX := fun w => L2.CX PySem.Challenge.rw_wishmet_k87_book_text.prog w) (sp := fun w => Dn.spLaw _) rfl (by decide) rfl ⟨rfl, by decide, by decide⟩ (fun w h Y => PySem.W.kIn_of Y) ?F (fun _ _ a ns hl _ hS => ⟨a, ns, rfl, hS, hl, fun _ => rfl⟩) (fun _ _ _ _ _ ⟨_, _, _, _, _, _, _, _, _, _, _, _, z⟩ => z)
  case F =>
    intro w mg fa h KX G hmg
    refine' K87.all_mk KX G hmg ?aC ?a0 ?l0 ?c0 ?k0 ?a1 ?l1 ?c1 ?k1 ?a2 ?l2 ?c2 ?k2 ?a3 ?l3 ?c3 ?k3 ?a4 ?l4 ?c4 ?k4 ?a5 ?l5 ?c5 ?k5 ?a6 ?l6 ?c6 ?k6 ?a7 ?l7 ?c7 ?k7 ?a8 ?l8 ?c8 ?k8 ?a9 ?l9 ?c9 ?k9 ?a10 ?l10 ?c10 ?k10 ?a11 ?l11 ?c11 ?k11 ?a12 ?l12 ?c12 ?k12 ?a13 ?l13 ?c13 ?k13 ?a14 ?l14 ?c14 ?k14 ?a15 ?l15 ?c15 ?k15 ?a16 ?l16 ?c16 ?k16 ?a17 ?l17 ?c17 ?k17 ?a18 ?i18 ?l18 ?c18 ?k18 ?a19 ?l19 ?c19 ?k19 ?a20 ?l20 ?c20 ?k20 ?a21 ?i21 ?l21 ?c21 ?k21 ?a22 ?l22 ?c22 ?k22 ?a23 ?l23 ?c23 ?k23 ?a24 ?l24 ?c24 ?k24 ?a25 ?l25 ?c25 ?k25 ?z_len ?z_abs ?z_range ?z_int_ ?z_min_ ?z_sorted ?z_tuple_ ?z_str_ ?z_isinstance ?z_bool_ ?z_all_ ?q_MOST_KINDS ?q_DIGITS ?pg ?hd ?po ?sa ?mk ?kc ?n1 ?n2 ?n3 ?n4 ?n5 ?zc ?zg ?zt ?zm ?zn K87.plain
    (case aC => k_is)
    (case a0 => k_is)
    (case l0 => k_is)
    (case c0 => k_is)
    (case k0 => k_is)
    (case a1 => k_is)
    (case l1 => k_is)
    (case c1 => k_is)
    (case k1 => k_is)
    (case a2 => k_is)
    (case l2 => k_is)
    (case c2 => k_is)
    (case k2 => k_is)
    (case a3 => k_is)
    (case l3 => k_is)
    (case c3 => k_is)
    (case k3 => k_is)
    (case a4 => k_is)
    (case l4 => k_is)
    (case c4 => k_is)
    (case k4 => k_is)
    (case a5 => k_is)
    (case l5 => k_is)
    (case c5 => k_is)
    (case k5 => k_is)
    (case a6 => k_is)
    (case l6 => k_is)
    (case c6 => k_is)
    (case k6 => k_is)
    (case a7 => k_is)
    (case l7 => k_is)
    (case c7 => k_is)
    (case k7 => k_is)
    (case a8 => k_is)
    (case l8 => k_is)
    (case c8 => k_is)
    (case k8 => k_is)
    (case a9 => k_is)
    (case l9 => k_is)
    (case c9 => k_is)
    (case k9 => k_is)
    (case a10 => k_is)
    (case l10 => k_is)
    (case c10 => k_is)
    (case k10 => k_is)
    (case a11 => k_is)
    (case l11 => k_is)
    (case c11 => k_is)
    (case k11 => k_is)
    (case a12 => k_is)
    (case l12 => k_is)
    (case c12 => k_is)
    (case k12 => k_is)
    (case a13 => k_is)
    (case l13 => k_is)
    (case c13 => k_is)
    (case k13 => k_is)
    (case a14 => k_is)
    (case l14 => k_is)
    (case c14 => k_is)
    (case k14 => k_is)
    (case a15 => k_is)
    (case l15 => k_is)
    (case c15 => k_is)
    (case k15 => k_is)
    (case a16 => k_is)
    (case l16 => k_is)
    (case c16 => k_is)
    (case k16 => k_is)
    (case a17 => k_is)
    (case l17 => k_is)
    (case c17 => k_is)
    (case k17 => k_is)
    (case a18 => k_is)
    (case i18 => k_is)
    (case l18 => k_is)
    (case c18 => k_is)
    (case k18 => k_is)
    (case a19 => k_is)
    (case l19 => k_is)
    (case c19 => k_is)
    (case k19 => k_is)
    (case a20 => k_is)
    (case l20 => k_is)
    (case c20 => k_is)
    (case k20 => k_is)
    (case a21 => k_is)
    (case i21 => k_is)
    (case l21 => k_is)
    (case c21 => k_is)
    (case k21 => k_is)
    (case a22 => k_is)
    (case l22 => k_is)
    (case c22 => k_is)
    (case k22 => k_is)
    (case a23 => k_is)
    (case l23 => k_is)
    (case c23 => k_is)
    (case k23 => k_is)
    (case a24 => k_is)
    (case l24 => k_is)
    (case c24 => k_is)
    (case k24 => k_is)
    (case a25 => k_is)
    (case l25 => k_is)
    (case c25 => k_is)
    (case k25 => k_is)
    (case z_len => k_is)
    (case z_abs => k_is)
    (case z_range => k_is)
    (case z_int_ => k_is)
    (case z_min_ => k_is)
    (case z_sorted => k_is)
    (case z_tuple_ => k_is)
    (case z_str_ => k_is)
    (case z_isinstance => k_is)
    (case z_bool_ => k_is)
    (case z_all_ => k_is)
    (case q_MOST_KINDS => k_is)
    (case q_DIGITS => k_is)
    (case pg => k_is)
    (case hd => k_is)
    (case po => k_is)
    (case sa => k_is)
    (case mk => k_is)
    (case kc => k_is)
    (case n1 => k_is)
    (case n2 => k_is)
    (case n3 => k_is)
    (case n4 => k_is)
    (case n5 => k_is)
    (case zc => k_is)
    (case zg => k_is)
    (case zt => k_is)
    (case zm => k_is)
    (case zn => k_is)

