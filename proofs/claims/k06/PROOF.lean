import PyProof.Rows.All
import Wide.All
import OpenK.AllK
import Wide.FinOn
import HandS.ForMost
import HandS.Exc
import HandS.TryOnly
import HandS.ExcOwn
import HandS.WordsExc
import HandS.IsInst
import HandS.Style
import HandS.TupMul
import HandS.TupAny
import HandS.SortRule
import HandS.Rev
import HandS.RevRange
import HandS.Zip
import HandS.Conv
import HandS.SetFor
import HandS.Defaults
import HandS.HeadHook1
import HandS.HeadHook2
import HandS.Head0
import HandS.Head1
import HandS.Head2
import HandS.HeadEnd
import HandS.Ends
import HandS.HotCalls
import HandS.ExcIs
import HandS.ExcField
import HandS.ExcInit
import HandS.EndBits
import HandS.Dict
import HandS.More
import HandS.RevTup
import HandS.SortKw
import PyProof.WalkInts
import KE.KStateDown
import Lean
import HandS.Words
import PySem.Challenge.RW_beginnet_k06_fewest_joints
set_option Elab.async false
set_option linter.all false
set_option maxRecDepth 1000000
set_option maxHeartbeats 0
/-! G0: own data, cells, results; how they stand to the layer's values and heaps; canonical readings. -/
namespace G
open L2 PySem PySem.Spec PyProof.Rows
/-! ### data -/
inductive D where
  | non | bl (b : Bool) | int (i : Int) | str (s : Str) | tup (xs : List D) | lst (xs : List D) | ref (i : Nat) | dic | scr (ns : List Int)
instance : Inhabited D := ⟨.non⟩
abbrev En := List (Option D)
abbrev Cs := List (List D)
inductive Exn where
  | lines | thing | kind | nonet | net (at_ : Option Int)
inductive Rs (α : Type) where
  | ok (a : α) (cs : Cs) | ex (e : Exn) (cs : Cs) | no
abbrev M (α : Type) := Cs → Rs α
namespace M
def ret {α : Type} (a : α) : M α := fun cs => .ok a cs
def bnd {α β : Type} (m : M α) (k : α → M β) : M β := fun cs => match m cs with
  | .ok a cs' => k a cs'
  | .ex e cs' => .ex e cs'
  | .no => .no
def no {α : Type} : M α := fun _ => .no
def thr {α : Type} (e : Exn) : M α := fun cs => .ex e cs
def ofO {α : Type} : Option α → M α
  | some a => ret a
  | none => no
theorem bnd_ok {α β : Type} {m : M α} {k : α → M β} {cs cs' : Cs} {a : α} (h : m cs = .ok a cs') : bnd m k cs = k a cs' := by
  unfold bnd
  rw [h]
theorem bnd_ex {α β : Type} {m : M α} {k : α → M β} {cs cs' : Cs} {e : Exn} (h : m cs = .ex e cs') : bnd m k cs = .ex e cs' := by
  unfold bnd
  rw [h]
@[simp] theorem ret_bnd {α β : Type} (a : α) (k : α → M β) : bnd (ret a) k = k a := rfl
@[simp] theorem no_bnd {α β : Type} (k : α → M β) : bnd (no : M α) k = no := rfl
@[simp] theorem thr_bnd {α β : Type} (e : Exn) (k : α → M β) : bnd (thr e : M α) k = thr e := rfl
@[simp] theorem bnd_ret {α : Type} (m : M α) : bnd m ret = m := by
  funext cs
  unfold bnd ret
  cases m cs <;> rfl
@[simp] theorem bnd_bnd {α β γ : Type} (m : M α) (k : α → M β) (l : β → M γ) : bnd (bnd m k) l = bnd m fun a => bnd (k a) l := by
  funext cs
  unfold bnd
  cases m cs <;> rfl
@[simp] theorem ofO_some {α : Type} (a : α) : ofO (some a) = ret a := rfl
@[simp] theorem ofO_none {α : Type} : ofO (none : Option α) = no := rfl
end M
/-! ### heaps -/
def Ext (H H' : Hp) : Prop := ∀ a o, H a = some o → H' a = some o
theorem Ext.refl (H : Hp) : Ext H H := fun _ _ h => h
theorem Ext.trans {H H1 H2 : Hp} (a : Ext H H1) (b : Ext H1 H2) : Ext H H2 := fun x o h => b x o (a x o h)
theorem Ext.new {H : Hp} {p : Addr} {o : HO} (h : H p = none) : Ext H (upd H p o) := fun a u e => by
  rw [upd_ne (ne_of_none e h)]
  exact e
theorem Ext.upd2 {F H : Hp} {p : Addr} {o : HO} (e : Ext F H) : Ext (upd F p o) (upd H p o) := fun a u h => by
  by_cases q : a = p
  · subst q
    rw [upd_same] at h ⊢
    exact h
  · rw [upd_ne q] at h ⊢
    exact e a u h
theorem Ext.mut {F H : Hp} {p : Addr} {o : HO} (e : Ext F H) (h : F p = none) : Ext F (upd H p o) := fun a u ha => by
  rw [upd_ne (ne_of_none ha h)]
  exact e a u ha
theorem Ext.none {H H' : Hp} {p : Addr} (e : Ext H H') (h : H' p = Option.none) : H p = Option.none := by
  cases h1 : H p with
  | none => rfl
  | some o =>
    rw [e p o h1] at h
    cases h
theorem ext_rd {H H' : Hp} {a : Addr} {u : HO} (e : Ext H H') (h : Rd H a u) : Rd H' a u := by
  rcases h with h | ⟨o, h⟩
  · exact .inl (e a _ h)
  · exact .inr ⟨o, e a _ h⟩
theorem ext_t {K : PySem.W.Frag} {H H' : Hp} {a : Addr} {xs : List V} (e : Ext H H') (h : SqT K H a xs) : SqT K H' a xs := by
  rcases h with h | h
  · exact .inl (ext_rd e h)
  · exact .inr h
theorem ext_l {K : PySem.W.Frag} {H H' : Hp} {a : Addr} {xs : List V} (e : Ext H H') (h : SqL K H a xs) : SqL K H' a xs := by
  rcases h with h | h
  · exact .inl (ext_rd e h)
  · exact .inr h
/-! ### a value stands for a datum: F what is frozen, as the cells' places -/
mutual
inductive Dv (K : PySem.W.Frag) (F : Hp) (as : List Addr) : V → D → Prop
  | non : Dv K F as .non .non
  | bl (b : Bool) : Dv K F as (.bl b) (.bl b)
  | int (i : Int) : Dv K F as (.int i) (.int i)
  | str (x : Str) : Dv K F as (.str x) (.str x)
  | tup {a : Addr} {xs : List V} {ds : List D} : F a = some (.tup xs) → DvL K F as xs ds → Dv K F as (.ref a) (.tup ds)
  | lst {a : Addr} {xs : List V} {ds : List D} : F a = some (.lst xs) → DvL K F as xs ds → Dv K F as (.ref a) (.lst ds)
  | ref {a : Addr} {i : Nat} : as[i]? = some a → Dv K F as (.ref a) (.ref i)
  | dic {a : Addr} : F a = some (.dK []) → Dv K F as (.ref a) .dic
  | scr {a : Addr} {ns : List Int} : SqL K F a (ns.map V.int) → Dv K F as (.ref a) (.scr ns)
inductive DvL (K : PySem.W.Frag) (F : Hp) (as : List Addr) : List V → List D → Prop
  | nil : DvL K F as [] []
  | cons {v : V} {vs : List V} {d : D} {ds : List D} : Dv K F as v d → DvL K F as vs ds → DvL K F as (v :: vs) (d :: ds)
end
section
variable {K : PySem.W.Frag} {F F' H H' : Hp} {as as' : List Addr}
theorem pre_get {α : Type} {as as' : List α} (h : as <+: as') {i : Nat} {a : α} (e : as[i]? = some a) : as'[i]? = some a := by
  obtain ⟨t, rfl⟩ := h
  rw [List.getElem?_append_left (List.getElem?_eq_some_iff.mp e).1]
  exact e
mutual
theorem Dv.mono (e : Ext F F') (p : as <+: as') : ∀ {v : V} {d : D}, Dv K F as v d → Dv K F' as' v d
  | _, _, .non => .non
  | _, _, .bl b => .bl b
  | _, _, .int i => .int i
  | _, _, .str x => .str x
  | _, _, .tup h l => .tup (e _ _ h) (DvL.mono e p l)
  | _, _, .lst h l => .lst (e _ _ h) (DvL.mono e p l)
  | _, _, .ref h => .ref (pre_get p h)
  | _, _, .dic h => .dic (e _ _ h)
  | _, _, .scr h => .scr (ext_l e h)
theorem DvL.mono (e : Ext F F') (p : as <+: as') : ∀ {vs : List V} {ds : List D}, DvL K F as vs ds → DvL K F' as' vs ds
  | _, _, .nil => .nil
  | _, _, .cons h t => .cons (Dv.mono e p h) (DvL.mono e p t)
end
theorem DvL.length : ∀ {vs : List V} {ds : List D}, DvL K F as vs ds → vs.length = ds.length
  | _, _, .nil => rfl
  | _, _, .cons _ t => congrArg (· + 1) t.length
theorem DvL.get : ∀ {vs : List V} {ds : List D} {i : Nat} {d : D}, DvL K F as vs ds → ds[i]? = some d → ∃ v, vs[i]? = some v ∧ Dv K F as v d
  | _, _, _, _, .nil, e => by simp at e
  | _, _, 0, _, .cons h _, e => by
    simp at e
    subst e
    exact ⟨_, rfl, h⟩
  | _, _, i + 1, d, .cons _ t, e => by
    obtain ⟨v, h1, h2⟩ := DvL.get (i := i) (d := d) t (by simpa using e)
    exact ⟨v, by simpa using h1, h2⟩
theorem DvL.getV : ∀ {vs : List V} {ds : List D} {i : Nat} {v : V}, DvL K F as vs ds → vs[i]? = some v → ∃ d, ds[i]? = some d ∧ Dv K F as v d
  | _, _, _, _, .nil, e => by simp at e
  | _, _, 0, _, .cons h _, e => by
    simp at e
    subst e
    exact ⟨_, rfl, h⟩
  | _, _, i + 1, v, .cons _ t, e => by
    obtain ⟨d, h1, h2⟩ := DvL.getV (i := i) (v := v) t (by simpa using e)
    exact ⟨d, by simpa using h1, h2⟩
theorem DvL.append : ∀ {vs ws : List V} {ds es : List D}, DvL K F as vs ds → DvL K F as ws es → DvL K F as (vs ++ ws) (ds ++ es)
  | _, _, _, _, .nil, h => h
  | _, _, _, _, .cons h t, g => .cons h (DvL.append t g)
theorem DvL.set {v : V} {d : D} (h : Dv K F as v d) : ∀ {vs : List V} {ds : List D} (i : Nat), DvL K F as vs ds → DvL K F as (vs.set i v) (ds.set i d)
  | _, _, _, .nil => .nil
  | _, _, 0, .cons _ t => .cons h t
  | _, _, i + 1, .cons q t => .cons q (DvL.set h i t)
theorem DvL.take : ∀ {vs : List V} {ds : List D} (i : Nat), DvL K F as vs ds → DvL K F as (vs.take i) (ds.take i)
  | _, _, 0, h => by
    rw [List.take_zero, List.take_zero]
    exact .nil
  | _, _, i + 1, .nil => .nil
  | _, _, i + 1, .cons h t => .cons h (DvL.take i t)
theorem DvL.drop : ∀ {vs : List V} {ds : List D} (i : Nat), DvL K F as vs ds → DvL K F as (vs.drop i) (ds.drop i)
  | _, _, 0, h => h
  | _, _, i + 1, .nil => .nil
  | _, _, i + 1, .cons h t => DvL.drop i t
theorem DvL.rev : ∀ {vs : List V} {ds : List D}, DvL K F as vs ds → DvL K F as vs.reverse ds.reverse
  | _, _, .nil => .nil
  | _, _, .cons h t => by
    rw [List.reverse_cons, List.reverse_cons]
    exact t.rev.append (.cons h .nil)
theorem DvL.eraseIdx : ∀ {vs : List V} {ds : List D} (i : Nat), DvL K F as vs ds → DvL K F as (vs.eraseIdx i) (ds.eraseIdx i)
  | _, _, _, .nil => .nil
  | _, _, 0, .cons _ t => t
  | _, _, i + 1, .cons h t => .cons h (DvL.eraseIdx i t)
theorem DvL.flat : ∀ {n : Nat} {vs : List V} {ds : List D}, DvL K F as vs ds → DvL K F as (List.replicate n vs).flatten (List.replicate n ds).flatten
  | 0, _, _, _ => .nil
  | n + 1, vs, ds, h => by
    rw [List.replicate_succ, List.replicate_succ, List.flatten_cons, List.flatten_cons]
    exact h.append h.flat
theorem DvL.ints : ∀ ns : List Int, DvL K F as (ns.map V.int) (ns.map D.int)
  | [] => .nil
  | n :: r => .cons (.int n) (DvL.ints r)
theorem DvL.bls : ∀ ns : List Bool, DvL K F as (ns.map V.bl) (ns.map D.bl)
  | [] => .nil
  | n :: r => .cons (.bl n) (DvL.bls r)
end
/-! ### what stands, what came since -/
structure Ok (K : PySem.W.Frag) (F H : Hp) (as : List Addr) (cs : Cs) : Prop where
  fh : Ext F H
  nd : as.Nodup
  len : as.length = cs.length
  cell : ∀ (i : Nat) (a : Addr) (xs : List D), as[i]? = some a → cs[i]? = some xs → F a = none ∧ ∃ ys, H a = some (.lst ys) ∧ DvL K F as ys xs
structure Gro (F H : Hp) (as : List Addr) (F' H' : Hp) (as' : List Addr) : Prop where
  ff : Ext F F'
  fn : ∀ p, H p ≠ none → F' p = F p
  hh : ∀ p o, H p = some o → p ∉ as → H' p = some o
  hl : ∀ p, H p ≠ none → H' p ≠ none
  ap : as <+: as'
  an : ∀ p ∈ as', p ∈ as ∨ H p = none
theorem Gro.refl (F H : Hp) (as : List Addr) : Gro F H as F H as := ⟨Ext.refl F, fun _ _ => rfl, fun _ _ h _ => h, fun _ h => h, List.prefix_rfl, fun _ h => .inl h⟩
theorem Gro.trans {F H F1 H1 F2 H2 : Hp} {as as1 as2 : List Addr} (a : Gro F H as F1 H1 as1) (b : Gro F1 H1 as1 F2 H2 as2) : Gro F H as F2 H2 as2 where
  ff := a.ff.trans b.ff
  fn := fun p h => (b.fn p (a.hl p h)).trans (a.fn p h)
  hh := fun p o h n => b.hh p o (a.hh p o h n) fun q => (a.an p q).elim n fun z => by
    rw [h] at z
    cases z
  hl := fun p h => b.hl p (a.hl p h)
  ap := a.ap.trans b.ap
  an := fun p h => (b.an p h).elim (a.an p) fun z => .inr (by
    cases q : H p with
    | none => rfl
    | some o => exact absurd z (a.hl p (by rw [q]; exact fun y => nomatch y)))
section
variable {K : PySem.W.Frag} {F H F' H' : Hp} {as as' : List Addr} {cs : Cs} {p : Addr}
theorem Ok.old (ok : Ok K F H as cs) {a : Addr} (h : a ∈ as) : F a = none ∧ ∃ ys, H a = some (.lst ys) := by
  obtain ⟨i, hi, e⟩ := List.mem_iff_getElem.mp h
  have hc : i < cs.length := by rw [← ok.len]; exact hi
  obtain ⟨h1, ys, h2, _⟩ := ok.cell i a cs[i] (by rw [List.getElem?_eq_getElem hi, e]) (List.getElem?_eq_getElem hc)
  exact ⟨h1, ys, h2⟩
theorem Ok.out (ok : Ok K F H as cs) (h : H p = none) : p ∉ as := fun m => by
  obtain ⟨_, ys, e⟩ := ok.old m
  rw [h] at e
  cases e
theorem Ok.fnone (ok : Ok K F H as cs) (h : H p = none) : F p = none := ok.fh.none h
/-- a new frozen object -/
theorem gro_new (o : HO) (ok : Ok K F H as cs) (h : H p = none) : Gro F H as (upd F p o) (upd H p o) as where
  ff := Ext.new (ok.fnone h)
  fn := fun q hq => upd_ne fun e => hq (by rw [e]; exact h)
  hh := fun q u hq _ => (Ext.new h) q u hq
  hl := fun q hq => by
    rw [upd_ne fun e => hq (by rw [e]; exact h)]
    exact hq
  ap := List.prefix_rfl
  an := fun _ m => .inl m
theorem ok_new (o : HO) (ok : Ok K F H as cs) (h : H p = none) : Ok K (upd F p o) (upd H p o) as cs where
  fh := ok.fh.upd2
  nd := ok.nd
  len := ok.len
  cell := fun i a xs ha hx => by
    obtain ⟨h1, ys, h2, h3⟩ := ok.cell i a xs ha hx
    have ne : a ≠ p := fun e => by
      rw [e, h] at h2
      cases h2
    exact ⟨by rw [upd_ne ne]; exact h1, ys, by rw [upd_ne ne]; exact h2, h3.mono (Ext.new (ok.fnone h)) List.prefix_rfl⟩
/-- a new object that is not frozen -/
theorem gro_out (o : HO) (ok : Ok K F H as cs) (h : H p = none) : Gro F H as F (upd H p o) as where
  ff := Ext.refl F
  fn := fun _ _ => rfl
  hh := fun q u hq _ => (Ext.new h) q u hq
  hl := fun q hq => by
    rw [upd_ne fun e => hq (by rw [e]; exact h)]
    exact hq
  ap := List.prefix_rfl
  an := fun _ m => .inl m
theorem ok_out (o : HO) (ok : Ok K F H as cs) (h : H p = none) : Ok K F (upd H p o) as cs where
  fh := ok.fh.mut (ok.fnone h)
  nd := ok.nd
  len := ok.len
  cell := fun i a xs ha hx => by
    obtain ⟨h1, ys, h2, h3⟩ := ok.cell i a xs ha hx
    have ne : a ≠ p := fun e => by
      rw [e, h] at h2
      cases h2
    exact ⟨h1, ys, by rw [upd_ne ne]; exact h2, h3⟩
/-- a new cell -/
theorem gro_cell (o : HO) (ok : Ok K F H as cs) (h : H p = none) : Gro F H as F (upd H p o) (as ++ [p]) where
  ff := Ext.refl F
  fn := fun _ _ => rfl
  hh := fun q u hq _ => (Ext.new h) q u hq
  hl := fun q hq => by
    rw [upd_ne fun e => hq (by rw [e]; exact h)]
    exact hq
  ap := List.prefix_append _ _
  an := fun q m => (List.mem_append.mp m).elim .inl fun z => .inr (by
    rw [List.mem_singleton.mp z]
    exact h)
theorem ok_cell {ys : List V} {xs : List D} (ok : Ok K F H as cs) (h : H p = none) (hy : DvL K F as ys xs) : Ok K F (upd H p (.lst ys)) (as ++ [p]) (cs ++ [xs]) where
  fh := ok.fh.mut (ok.fnone h)
  nd := List.nodup_append.mpr ⟨ok.nd, List.nodup_cons.mpr ⟨List.not_mem_nil, List.nodup_nil⟩, fun a ha b hb e => by
    rw [List.mem_singleton.mp hb] at e
    rw [e] at ha
    exact ok.out h ha⟩
  len := by rw [List.length_append, List.length_append, ok.len]; rfl
  cell := fun i a zs ha hz => by
    by_cases hi : i < as.length
    · rw [List.getElem?_append_left hi] at ha
      rw [List.getElem?_append_left (by rw [← ok.len]; exact hi)] at hz
      obtain ⟨h1, ws, h2, h3⟩ := ok.cell i a zs ha hz
      have ne : a ≠ p := fun e => by
        rw [e, h] at h2
        cases h2
      exact ⟨h1, ws, by rw [upd_ne ne]; exact h2, h3.mono (Ext.refl F) (List.prefix_append _ _)⟩
    · rw [List.getElem?_append_right (Nat.le_of_not_lt hi)] at ha
      rw [List.getElem?_append_right (by rw [← ok.len]; exact Nat.le_of_not_lt hi), ← ok.len] at hz
      have e0 : i - as.length = 0 := by
        cases q : i - as.length with
        | zero => rfl
        | succ n =>
          rw [q] at ha
          simp at ha
      rw [e0] at ha hz
      have ea : p = a := by simpa using ha
      have ez : xs = zs := by simpa using hz
      subst ea ez
      exact ⟨ok.fnone h, ys, upd_same, hy.mono (Ext.refl F) (List.prefix_append _ _)⟩
/-- a cell's content changes -/
theorem gro_set {i : Nat} {ys : List V} (o : HO) (ok : Ok K F H as cs) (hp : as[i]? = some p) (h : H p = some (.lst ys)) : Gro F H as F (upd H p o) as where
  ff := Ext.refl F
  fn := fun _ _ => rfl
  hh := fun q u hq n => by
    have ne : q ≠ p := fun e => n (by rw [e]; exact List.mem_of_getElem? hp)
    rw [upd_ne ne]
    exact hq
  hl := fun q hq => by
    by_cases e : q = p
    · rw [e, upd_same]
      exact fun z => nomatch z
    · rw [upd_ne e]
      exact hq
  ap := List.prefix_rfl
  an := fun _ m => .inl m
theorem ok_set {i : Nat} {ys : List V} {xs : List D} (ok : Ok K F H as cs) (hp : as[i]? = some p) (hy : DvL K F as ys xs) : Ok K F (upd H p (.lst ys)) as (cs.set i xs) where
  fh := ok.fh.mut (ok.old (List.mem_of_getElem? hp)).1
  nd := ok.nd
  len := by rw [List.length_set, ok.len]
  cell := fun j a zs ha hz => by
    by_cases e : j = i
    · subst e
      rw [hp] at ha
      have ea : p = a := Option.some.inj ha
      have hl : j < cs.length := by
        rw [← ok.len]
        exact (List.getElem?_eq_some_iff.mp hp).1
      rw [List.getElem?_set_self hl] at hz
      have ez : xs = zs := Option.some.inj hz
      subst ea ez
      exact ⟨(ok.old (List.mem_of_getElem? hp)).1, ys, upd_same, hy⟩
    · rw [List.getElem?_set_ne (Ne.symm e)] at hz
      obtain ⟨h1, ws, h2, h3⟩ := ok.cell j a zs ha hz
      have ne : a ≠ p := fun q => e (by
        obtain ⟨l1, e1⟩ := List.getElem?_eq_some_iff.mp ha
        obtain ⟨l2, e2⟩ := List.getElem?_eq_some_iff.mp hp
        exact (List.getElem_inj ok.nd).mp (e1.trans (q.trans e2.symm)))
      exact ⟨h1, ws, by rw [upd_ne ne]; exact h2, h3⟩
theorem Dv.gro {v : V} {d : D} (h : Dv K F as v d) (g : Gro F H as F' H' as') : Dv K F' as' v d := h.mono g.ff g.ap
theorem DvL.gro {v : List V} {d : List D} (h : DvL K F as v d) (g : Gro F H as F' H' as') : DvL K F' as' v d := h.mono g.ff g.ap
end
/-! ### names' slots -/
structure Sl (K : PySem.W.Frag) (F : Hp) (as : List Addr) (σ : L2.St) (env : En) : Prop where
  len : σ.length = env.length
  at_ : ∀ (i : Nat) (d : D), env[i]? = some (some d) → ∃ v, σ[i]? = some (some v) ∧ Dv K F as v d
section
variable {K : PySem.W.Frag} {F H F' H' : Hp} {as as' : List Addr} {σ : L2.St} {env : En}
theorem Sl.gro (s : Sl K F as σ env) (g : Gro F H as F' H' as') : Sl K F' as' σ env := ⟨s.len, fun i d e => by
  obtain ⟨v, h1, h2⟩ := s.at_ i d e
  exact ⟨v, h1, h2.gro g⟩⟩
theorem Sl.set {v : V} {d : D} (s : Sl K F as σ env) (h : Dv K F as v d) (i : Nat) : Sl K F as (σ.set i (some v)) (env.set i (some d)) := ⟨by rw [List.length_set, List.length_set, s.len], fun j e he => by
  by_cases q : j = i
  · subst q
    by_cases hl : j < env.length
    · rw [List.getElem?_set_self hl] at he
      rw [List.getElem?_set_self (by rw [s.len]; exact hl)]
      have ee : d = e := Option.some.inj (Option.some.inj he)
      subst ee
      exact ⟨v, rfl, h⟩
    · rw [List.getElem?_eq_none (by rw [List.length_set]; exact Nat.le_of_not_lt hl)] at he
      cases he
  · rw [List.getElem?_set_ne (Ne.symm q)] at he ⊢
    exact s.at_ j e he⟩
theorem Sl.unset (s : Sl K F as σ env) (i : Nat) (x : Option V) : Sl K F as (σ.set i x) (env.set i none) := ⟨by rw [List.length_set, List.length_set, s.len], fun j e he => by
  by_cases q : j = i
  · subst q
    by_cases hl : j < env.length
    · rw [List.getElem?_set_self hl] at he
      cases Option.some.inj he
    · rw [List.getElem?_eq_none (by rw [List.length_set]; exact Nat.le_of_not_lt hl)] at he
      cases he
  · rw [List.getElem?_set_ne (Ne.symm q)] at he ⊢
    exact s.at_ j e he⟩
/-- the slots of a comprehension's own names forgotten -/
def wip (env : En) : List Nat → En
  | [] => env
  | v :: vs => (wip env vs).set v none
theorem Sl.wip (s : Sl K F as σ env) : ∀ vs : List Nat, Sl K F as (wipe σ vs) (G.wip env vs)
  | [] => s
  | v :: vs => (Sl.wip s vs).unset v none
theorem Sl.start : ∀ (n : Nat) {vs : List V} {ds : List D}, DvL K F as vs ds → Sl K F as (vs.map some ++ List.replicate n none) (ds.map some ++ List.replicate n none) := fun n {vs ds} h => ⟨by simp [h.length], fun i d e => by
  by_cases hi : i < ds.length
  · rw [List.getElem?_append_left (by simpa using hi), List.getElem?_map] at e
    cases q : ds[i]? with
    | none =>
      rw [q] at e
      cases e
    | some d' =>
      rw [q] at e
      have ed : d' = d := Option.some.inj (Option.some.inj e)
      subst ed
      obtain ⟨v, h1, h2⟩ := h.get q
      refine ⟨v, ?_, h2⟩
      rw [List.getElem?_append_left (by simpa [h.length] using hi), List.getElem?_map, h1]
      rfl
  · rw [List.getElem?_append_right (by simpa using hi)] at e
    obtain ⟨_, q⟩ := List.getElem?_eq_some_iff.mp e
    rw [List.getElem_replicate] at q
    cases q⟩
end
/-! ### results as wishes -/
structure Ct where
  lines : Addr
  thing : Addr
  kind : Addr
  nonet : Addr
  net : Addr
def atV : Option Int → V
  | none => .non
  | some i => .int i
def XRel (ct : Ct) (H : Hp) : Exn → Value → Option Addr → Prop
  | .lines, c, d => c = .ref ct.lines ∧ d = none
  | .thing, c, d => c = .ref ct.thing ∧ d = none
  | .kind, c, d => c = .ref ct.kind ∧ d = none
  | .nonet, c, d => c = .ref ct.nonet ∧ d = none
  | .net o, c, d => c = .ref ct.net ∧ ∃ dd fs, d = some dd ∧ H dd = some (.xd fs) ∧ fs.lookup (PySem.Str.ofString "at") = some (atV o)
def out {α : Type} (K : PySem.W.Frag) (ct : Ct) (W : WX) (n : Nat) (F H : Hp) (as : List Addr) (r : Rs α) (P : α → Cs → Hp → Hp → List Addr → Prop) : Prop := match r with
  | .ok a cs => ∀ F' H' as', Gro F H as F' H' as' → Ok K F' H' as' cs → P a cs F' H' as'
  | .ex x cs => ∀ c d σ' F' H' as', σ'.length = n → Gro F H as F' H' as' → Ok K F' H' as' cs → XRel ct H' x c d → W c d σ' H'
  | .no => False
section
variable {α β : Type} {K : PySem.W.Frag} {ct : Ct} {W : WX} {n : Nat} {F H F1 H1 : Hp} {as as1 : List Addr}
theorem out_mono {r : Rs α} {P : α → Cs → Hp → Hp → List Addr → Prop} (g : Gro F H as F1 H1 as1) (h : out K ct W n F H as r P) : out K ct W n F1 H1 as1 r P := by
  cases r with
  | ok a cs => exact fun F' H' as' g' o => h F' H' as' (g.trans g') o
  | ex x cs => exact fun c d σ' F' H' as' l g' o x' => h c d σ' F' H' as' l (g.trans g') o x'
  | no => exact h
theorem out_imp {r : Rs α} {P P' : α → Cs → Hp → Hp → List Addr → Prop} (h : out K ct W n F H as r P) (k : ∀ a cs F' H' as', Gro F H as F' H' as' → Ok K F' H' as' cs → P a cs F' H' as' → P' a cs F' H' as') : out K ct W n F H as r P' := by
  cases r with
  | ok a cs => exact fun F' H' as' g o => k a cs F' H' as' g o (h F' H' as' g o)
  | ex x cs => exact h
  | no => exact h
theorem out_bnd {m : M α} {k : α → M β} {cs : Cs} {P : β → Cs → Hp → Hp → List Addr → Prop} (h : out K ct W n F H as (M.bnd m k cs) P) : out K ct W n F H as (m cs) fun a cs' F' H' as' => out K ct W n F' H' as' (k a cs') P := by
  unfold M.bnd at h
  cases e : m cs with
  | ok a cs' =>
    rw [e] at h
    exact fun F' H' as' g o => out_mono g h
  | ex x cs' =>
    rw [e] at h
    exact h
  | no =>
    rw [e] at h
    exact h
theorem out_ok {a : α} {cs : Cs} {P : α → Cs → Hp → Hp → List Addr → Prop} (o : Ok K F H as cs) (h : out K ct W n F H as (.ok a cs) P) : P a cs F H as := h F H as (Gro.refl F H as) o
end
/-! ### canonical readings -/
def oD (K : PySem.W.Frag) (Q : VK) : D → Cs → Hp → Hp → List Addr → Prop := fun d _ F' H' as' => ∀ v, Dv K F' as' v d → Q v H'
def tD (K : PySem.W.Frag) (ct : Ct) (W : WX) (m : En → M D) : TE := fun σ H Q => ∃ F as env cs, Ok K F H as cs ∧ Sl K F as σ env ∧ out K ct W σ.length F H as (m env cs) (oD K Q)
def tT (K : PySem.W.Frag) (ct : Ct) (W : WX) (m : En → M Bool) : TT := fun σ H Q => ∃ F as env cs, Ok K F H as cs ∧ Sl K F as σ env ∧ out K ct W σ.length F H as (m env cs) fun b _ _ H' _ => Q b H'
def tA (K : PySem.W.Frag) (ct : Ct) (W : WX) (m : En → M (List D)) : TA := fun σ H Q => ∃ F as env cs, Ok K F H as cs ∧ Sl K F as σ env ∧ out K ct W σ.length F H as (m env cs) fun ds _ F' H' as' => ∀ vs, DvL K F' as' vs ds → Q vs H'
inductive Fl where
  | nx (env : En) | rt (d : D) | bk (env : En) | ct (env : En)
def oS (K : PySem.W.Frag) (n : Nat) (E : Ends) : Fl → Cs → Hp → Hp → List Addr → Prop
  | .nx env', _, F', H', as' => ∀ σ', σ'.length = n → Sl K F' as' σ' env' → E.nx σ' H'
  | .rt d, _, F', H', as' => ∀ v, Dv K F' as' v d → E.rt v H'
  | .bk env', _, F', H', as' => ∀ σ', σ'.length = n → Sl K F' as' σ' env' → E.bk σ' H'
  | .ct env', _, F', H', as' => ∀ σ', σ'.length = n → Sl K F' as' σ' env' → E.ct σ' H'
def tS (K : PySem.W.Frag) (ct : Ct) (W : WX) (m : En → M Fl) : TS := fun E σ H => ∃ F as env cs, Ok K F H as cs ∧ Sl K F as σ env ∧ out K ct W σ.length F H as (m env cs) (oS K σ.length E)
theorem PE.imp {X : Cx} {e : Expr} {t t' : TE} (h : PE X e t) (k : ∀ σ H Q, t' σ H Q → t σ H Q) : PE X e t' := ⟨fun pins s σ H Q I w => h.run pins s σ H Q I (k σ H Q w)⟩
theorem PT.imp {X : Cx} {e : Expr} {t t' : TT} (h : PT X e t) (k : ∀ σ H Q, t' σ H Q → t σ H Q) : PT X e t' := ⟨fun pins s σ H Q I w => h.run pins s σ H Q I (k σ H Q w)⟩
theorem PA.imp {X : Cx} {e : List Expr} {t t' : TA} (h : PA X e t) (k : ∀ σ H Q, t' σ H Q → t σ H Q) : PA X e t' := ⟨fun pos pins s σ H Q I w => h.run pos pins s σ H Q I (k σ H Q w)⟩
theorem PS.imp {X : Cx} {e : Stmt} {t t' : TS} (h : PS X e t) (k : ∀ E σ H, t' E σ H → t E σ H) : PS X e t' := ⟨fun pins s σ H E I w => h.run pins s σ H E I (k E σ H w)⟩
theorem PSs.imp {X : Cx} {e : List Stmt} {t t' : TS} (h : PSs X e t) (k : ∀ E σ H, t' E σ H → t E σ H) : PSs X e t' := ⟨fun pins s σ H E I w => h.run pins s σ H E I (k E σ H w)⟩
end G
/-! G1: expressions. -/
namespace G
open L2 PySem PySem.Spec PyProof.Rows
def szOk (n : Nat) : Bool := decide (n ≤ 1000000)
theorem szOk_le {n : Nat} (h : szOk n = true) : n ≤ sizeLine := Nat.le_trans (of_decide_eq_true h) (by decide)
theorem szOk_lt {n : Nat} (h : szOk n = true) : n < sizeLine := Nat.lt_of_le_of_lt (of_decide_eq_true h) (by decide)
/-! ### what a datum holds -/
def lstOf (cs : Cs) : D → Option (List D)
  | .lst xs => some xs
  | .ref i => cs[i]?
  | _ => none
def seqOf (cs : Cs) : D → Option (List D)
  | .scr ns => some (ns.map .int)
  | d => lstOf cs d
section
variable {K : PySem.W.Frag} {F H : Hp} {as : List Addr} {cs : Cs} {v : V} {d : D} {xs : List D}
theorem lst_at (ok : Ok K F H as cs) (h : Dv K F as v d) (e : lstOf cs d = some xs) : ∃ a ys, v = .ref a ∧ H a = some (.lst ys) ∧ DvL K F as ys xs := by
  cases h with
  | lst h1 h2 =>
    cases e
    exact ⟨_, _, rfl, ok.fh _ _ h1, h2⟩
  | ref h1 =>
    obtain ⟨_, ys, h2, h3⟩ := ok.cell _ _ _ h1 e
    exact ⟨_, ys, rfl, h2, h3⟩
  | _ => cases e
theorem seq_at (ok : Ok K F H as cs) (h : Dv K F as v d) (e : seqOf cs d = some xs) : ∃ a ys, v = .ref a ∧ SqL K H a ys ∧ DvL K F as ys xs := by
  cases d with
  | scr ns =>
    cases h with
    | scr h1 =>
      cases e
      exact ⟨_, _, rfl, ext_l ok.fh h1, DvL.ints ns⟩
  | _ =>
    obtain ⟨a, ys, h1, h2, h3⟩ := lst_at ok h e
    exact ⟨a, ys, h1, SqL.of h2, h3⟩
end
/-! ### new objects -/
/-- a new list: frozen, or a cell -/
def mkL (c : Bool) (zs : List D) : M D := fun cs => if c = true then .ok (.ref cs.length) (cs ++ [zs]) else .ok (.lst zs) cs
@[simp] theorem mkL_f (zs : List D) : mkL false zs = M.ret (.lst zs) := rfl
section
variable {K : PySem.W.Frag} {ct : Ct} {W : WX} {n : Nat} {F H : Hp} {as : List Addr} {cs : Cs} {Q : VK}
theorem new_mk {c : Bool} {zs : List D} {ys : List V} (ok : Ok K F H as cs) (hy : DvL K F as ys zs) (h : out K ct W n F H as (mkL c zs cs) (oD K Q)) (p : Addr) (hp : H p = none) : Q (.ref p) (upd H p (.lst ys)) := by
  cases c with
  | false => exact h _ _ as (gro_new _ ok hp) (ok_new _ ok hp) _ (.lst upd_same (hy.mono (Ext.new (ok.fnone hp)) List.prefix_rfl))
  | true =>
    refine h _ _ (as ++ [p]) (gro_cell _ ok hp) (ok_cell ok hp hy) _ (.ref ?_)
    rw [List.getElem?_append_right (by rw [ok.len]; exact Nat.le_refl _), ok.len, Nat.sub_self]
    rfl
theorem new_tup {zs : List D} {ys : List V} (ok : Ok K F H as cs) (hy : DvL K F as ys zs) (h : out K ct W n F H as (.ok (.tup zs) cs) (oD K Q)) (p : Addr) (hp : H p = none) : Q (.ref p) (upd H p (.tup ys)) :=
  h _ _ as (gro_new _ ok hp) (ok_new _ ok hp) _ (.tup upd_same (hy.mono (Ext.new (ok.fnone hp)) List.prefix_rfl))
theorem end_ok {d : D} {v : V} (ok : Ok K F H as cs) (hv : Dv K F as v d) (h : out K ct W n F H as (.ok d cs) (oD K Q)) : Q v H := out_ok ok h v hv
end
/-! ### names, constants -/
def xVar (i : Nat) : En → M D := fun env => match env[i]? with
  | some (some d) => M.ret d
  | _ => M.no
def xC (d : D) : En → M D := fun _ => M.ret d
/-- what needs no heap -/
def flatD : D → Bool
  | .non | .bl _ | .int _ | .str _ => true
  | _ => false
section
variable {X : Cx} {ct : Ct} {W : WX}
theorem ge_var {i : Nat} {e : Expr} (h : PE X e (tVar i)) : PE X e (tD X.K ct W (xVar i)) := PE.imp h (by
  rintro σ H Q ⟨F, as, env, cs, ok, sl, h⟩
  unfold xVar at h
  cases q : env[i]? with
  | none =>
    rw [q] at h
    exact False.elim h
  | some o =>
    rw [q] at h
    cases o with
    | none => exact False.elim h
    | some d =>
      obtain ⟨v, h1, h2⟩ := sl.at_ i d q
      exact ⟨v, h1, end_ok ok h2 h⟩)
theorem ge_c {d : D} {v : V} {e : Expr} (h : PE X e (tC v)) (hd : ∀ F as, Dv X.K F as v d) : PE X e (tD X.K ct W (xC d)) := PE.imp h (by
  rintro σ H Q ⟨F, as, env, cs, ok, sl, h⟩
  exact end_ok ok (hd F as) h)
theorem ge_int {i j pos} : PE X (.Constant (.int i) j pos) (tD X.K ct W (xC (.int i))) := ge_c pe_int fun _ _ => .int i
theorem ge_bl {b j pos} : PE X (.Constant (.bool b) j pos) (tD X.K ct W (xC (.bl b))) := ge_c pe_bl fun _ _ => .bl b
theorem ge_non {j pos} : PE X (.Constant .none j pos) (tD X.K ct W (xC .non)) := ge_c pe_non fun _ _ => .non
theorem ge_str {x j pos} : PE X (.Constant (.str x) j pos) (tD X.K ct W (xC (.str x))) := ge_c pe_str fun _ _ => .str x
end
/-! ### operators -/
def xBin (f : D → D → M D) (a b : En → M D) : En → M D := fun env => M.bnd (a env) fun x => M.bnd (b env) fun y => f x y
def xUn (f : D → M D) (a : En → M D) : En → M D := fun env => M.bnd (a env) f
def OpD (K : PySem.W.Frag) (ct : Ct) (r : R2) (f : D → D → M D) : Prop :=
  ∀ (W : WX) (n : Nat) (F H : Hp) (as : List Addr) (cs : Cs) (x y : V) (d e : D) (Q : VK), Ok K F H as cs → Dv K F as x d → Dv K F as y e → out K ct W n F H as (f d e cs) (oD K Q) → r x y H Q
theorem OpD.or {K : PySem.W.Frag} {ct : Ct} {r r' : R2} {f f' : D → D → M D} (p : D → D → Bool) (h : OpD K ct r f) (h' : OpD K ct r' f') : OpD K ct (fun x y H Q => r x y H Q ∨ r' x y H Q) (fun d e => if p d e = true then f d e else f' d e) := fun W n F H as cs x y d e Q ok hx hy ho => by
  have ho : out K ct W n F H as ((if p d e = true then f d e else f' d e) cs) (oD K Q) := ho
  by_cases q : p d e = true
  · rw [if_pos q] at ho
    exact .inl (h W n F H as cs x y d e Q ok hx hy ho)
  · rw [if_neg q] at ho
    exact .inr (h' W n F H as cs x y d e Q ok hx hy ho)
section
variable {X : Cx} {ct : Ct} {W : WX} {a b c : Expr} {ma mb mc : En → M D} {f g : D → D → M D} {r r' : R2} {pos : Pos}
theorem tOp_of {K : PySem.W.Frag} (od : OpD K ct r f) {σ : L2.St} {H : Hp} {Q : VK} (h : tD K ct W (xBin f ma mb) σ H Q) : tOp r (tD K ct W ma) (tD K ct W mb) σ H Q := by
  obtain ⟨F, as, env, cs, ok, sl, h⟩ := h
  refine ⟨F, as, env, cs, ok, sl, out_imp (out_bnd h) fun d cs1 F1 H1 as1 g ok1 h1 v hv => ?_⟩
  refine ⟨F1, as1, env, cs1, ok1, sl.gro g, out_imp (out_bnd h1) fun e cs2 F2 H2 as2 g2 ok2 h2 u hu => ?_⟩
  exact od W _ F2 H2 as2 cs2 v u d e Q ok2 (hv.gro g2) hu h2
theorem ge_op {op : Operator} (ho : OpR X (binaryOp op) r) (od : OpD X.K ct r f) (ha : PE X a (tD X.K ct W ma)) (hb : PE X b (tD X.K ct W mb)) : PE X (.BinOp a op b pos) (tD X.K ct W (xBin f ma mb)) := PE.imp (pe_op ho ha hb) fun _ _ _ => tOp_of od
theorem ge_cmp {op : CmpOp} (ho : OpR X (compareOp op) r) (od : OpD X.K ct r f) (ha : PE X a (tD X.K ct W ma)) (hb : PE X b (tD X.K ct W mb)) (hm : behindInMarks op b = false) : PE X (.Compare a [op] [b] pos) (tD X.K ct W (xBin f ma mb)) := PE.imp (pe_cmpR ho ha hb hm) fun _ _ _ => tOp_of od
theorem ge_ix (hr : IxR X r) (od : OpD X.K ct r f) (ha : PE X a (tD X.K ct W ma)) (hb : PE X b (tD X.K ct W mb)) (hs : PlainIx b) : PE X (.Subscript a b pos) (tD X.K ct W (xBin f ma mb)) := PE.imp (pe_ix hr ha hb hs) fun _ _ _ => tOp_of od
def xChain (f g : D → D → M D) (a b c : En → M D) : En → M D := fun env => M.bnd (a env) fun x => M.bnd (b env) fun y => M.bnd (f x y) fun z => match z with
  | .bl true => M.bnd (c env) fun w => g y w
  | .bl false => M.ret (.bl false)
  | _ => M.no
theorem tChain_of {K : PySem.W.Frag} (od : OpD K ct r f) (od' : OpD K ct r' g) {σ : L2.St} {H : Hp} {Q : VK} (h : tD K ct W (xChain f g ma mb mc) σ H Q) : tChain r r' (tD K ct W ma) (tD K ct W mb) (tD K ct W mc) σ H Q := by
  obtain ⟨F, as, env, cs, ok, sl, h⟩ := h
  refine ⟨F, as, env, cs, ok, sl, out_imp (out_bnd h) fun d cs1 F1 H1 as1 g1 ok1 h1 v hv => ?_⟩
  refine ⟨F1, as1, env, cs1, ok1, sl.gro g1, out_imp (out_bnd h1) fun e cs2 F2 H2 as2 g2 ok2 h2 u hu => ?_⟩
  refine od W σ.length F2 H2 as2 cs2 v u d e _ ok2 (hv.gro g2) hu (out_imp (out_bnd h2) fun z cs3 F3 H3 as3 g3 ok3 h3 w hw => ?_)
  split at h3
  · cases hw
    refine ⟨true, rfl, ?_⟩
    rw [if_pos rfl]
    refine ⟨F3, as3, env, cs3, ok3, ((sl.gro g1).gro g2).gro g3, out_imp (out_bnd h3) fun y cs4 F4 H4 as4 g4 ok4 h4 t ht => ?_⟩
    exact od' W _ F4 H4 as4 cs4 u t e y Q ok4 ((hu.gro g3).gro g4) ht h4
  · cases hw
    refine ⟨false, rfl, ?_⟩
    rw [if_neg Bool.false_ne_true]
    exact end_ok ok3 (.bl false) h3
  · exact False.elim h3
theorem ge_chain {op op' : CmpOp} (ho : OpR X (compareOp op) r) (od : OpD X.K ct r f) (ho' : OpR X (compareOp op') r') (od' : OpD X.K ct r' g) (ha : PE X a (tD X.K ct W ma)) (hb : PE X b (tD X.K ct W mb)) (hc : PE X c (tD X.K ct W mc))
    (hm : lastMarks [op, op'] [b, c] = false := by with_unfolding_all rfl) : PE X (.Compare a [op, op'] [b, c] pos) (tD X.K ct W (xChain f g ma mb mc)) := PE.imp (pe_chain ho ho' ha hb hc hm) fun _ _ _ => tChain_of od od'
/-- one-place operators -/
def UnD (K : PySem.W.Frag) (ct : Ct) (r : V → Hp → VK → Prop) (f : D → M D) : Prop :=
  ∀ (W : WX) (n : Nat) (F H : Hp) (as : List Addr) (cs : Cs) (x : V) (d : D) (Q : VK), Ok K F H as cs → Dv K F as x d → out K ct W n F H as (f d cs) (oD K Q) → r x H Q
theorem un_of {K : PySem.W.Frag} {r : V → Hp → VK → Prop} {f : D → M D} (od : UnD K ct r f) {σ : L2.St} {H : Hp} {Q : VK} (h : tD K ct W (xUn f ma) σ H Q) : tD K ct W ma σ H fun x H1 => r x H1 Q := by
  obtain ⟨F, as, env, cs, ok, sl, h⟩ := h
  exact ⟨F, as, env, cs, ok, sl, out_imp (out_bnd h) fun d cs1 F1 H1 as1 g ok1 h1 v hv => od W _ F1 H1 as1 cs1 v d Q ok1 hv h1⟩
theorem ge_un {op : UnaryOp} {r : V → Hp → VK → Prop} {f : D → M D} (ho : UnR X (unaryOp op) r) (od : UnD X.K ct r f) (ha : PE X a (tD X.K ct W ma)) : PE X (.UnaryOp op a pos) (tD X.K ct W (xUn f ma)) := PE.imp (pe_un ho ha) fun _ _ _ => un_of od
end
/-! #### ints -/
def iOp (C : Int → Int → Bool) (g : Int → Int → D) : D → D → M D
  | .int i, .int j => if C i j = true then M.ret (g i j) else M.no
  | _, _ => M.no
section
variable {K : PySem.W.Frag} {ct : Ct}
theorem od_I {C : Int → Int → Prop} {Cb : Int → Int → Bool} {g : Int → Int → V} {gd : Int → Int → D} (hc : ∀ i j, Cb i j = true → C i j) (hg : ∀ F as i j, Dv K F as (g i j) (gd i j)) : OpD K ct (rI C g) (iOp Cb gd) := fun W n F H as cs x y d e Q ok hx hy h => by
  unfold iOp at h
  split at h
  · split at h
    · rename_i i j q
      cases hx
      cases hy
      exact ⟨i, j, rfl, rfl, hc i j q, end_ok ok (hg F as i j) h⟩
    · exact False.elim h
  · exact False.elim h
theorem od_I0 {g : Int → Int → V} {gd : Int → Int → D} (hg : ∀ F as i j, Dv K F as (g i j) (gd i j)) : OpD K ct (rI0 g) (iOp (fun _ _ => true) gd) := fun W n F H as cs x y d e Q ok hx hy h => by
  unfold iOp at h
  split at h
  · rename_i i j
    rw [if_pos rfl] at h
    cases hx
    cases hy
    exact ⟨i, j, rfl, rfl, end_ok ok (hg F as i j) h⟩
  · exact False.elim h
def opSub := iOp (fun _ _ => true) fun i j => .int (i - j)
def opLt := iOp (fun _ _ => true) fun i j => .bl (decide (i < j))
def opLe := iOp (fun _ _ => true) fun i j => .bl (decide (i ≤ j))
def opGt := iOp (fun _ _ => true) fun i j => .bl (decide (j < i))
def opGe := iOp (fun _ _ => true) fun i j => .bl (decide (j ≤ i))
def opDiv := iOp (fun _ j => decide (0 < j ∧ j < 1073741824)) fun i j => .int (i / j)
def opMod := iOp (fun _ j => decide (0 < j)) fun i j => .int (i % j)
def opPow := iOp (fun i j => decide (0 ≤ j ∧ j ≤ 1000000 ∧ i.natAbs < 2 ^ 64)) fun i j => .int (i ^ j.toNat)
theorem od_sub : OpD K ct (rI0 fun i j => .int (i - j)) opSub := od_I0 fun _ _ _ _ => .int _
theorem od_lt : OpD K ct (rI0 fun i j => .bl (decide (i < j))) opLt := od_I0 fun _ _ _ _ => .bl _
theorem od_le : OpD K ct (rI0 fun i j => .bl (decide (i ≤ j))) opLe := od_I0 fun _ _ _ _ => .bl _
theorem od_gt : OpD K ct (rI0 fun i j => .bl (decide (j < i))) opGt := od_I0 fun _ _ _ _ => .bl _
theorem od_ge : OpD K ct (rI0 fun i j => .bl (decide (j ≤ i))) opGe := od_I0 fun _ _ _ _ => .bl _
theorem od_div : OpD K ct (rI CDiv fun i j => .int (i / j)) opDiv := od_I (fun i j h => show _ ∧ _ from of_decide_eq_true h) fun _ _ _ _ => .int _
theorem od_mod : OpD K ct (rI (fun _ j => 0 < j) fun i j => .int (i % j)) opMod := od_I (fun _ _ h => of_decide_eq_true h) fun _ _ _ _ => .int _
theorem od_pow : OpD K ct (rI CPow fun i j => .int (i ^ j.toNat)) opPow := od_I (fun i j h => show _ ∧ _ from of_decide_eq_true h) fun _ _ _ _ => .int _
end
/-! #### + and * -/
def opAdd (c : Bool) : D → D → M D
  | .int i, .int j => M.ret (.int (i + j))
  | .str x, .str y => if szOk (x.length + y.length) = true then M.ret (.str (x ++ y)) else M.no
  | .tup xs, .tup ys => if szOk (xs.length + ys.length) = true then M.ret (.tup (xs ++ ys)) else M.no
  | a, b => fun cs => match lstOf cs a, lstOf cs b with
    | some xs, some ys => if szOk (xs.length + ys.length) = true then mkL c (xs ++ ys) cs else .no
    | _, _ => .no
def rAddA (K : PySem.W.Frag) : R2 := fun x y H Q => (rI0 (fun i j => .int (i + j)) x y H Q) ∨ (fun x y H Q => (∃ i j, x = .str i ∧ y = .str j ∧ i.length + j.length ≤ sizeLine ∧ Q (.str (i ++ j)) H) ∨ (rCatA K x y H Q ∨ rCat x y H Q)) x y H Q
theorem op_addA {X : Cx} : OpR X (binaryOp .Add) (rAddA X.K) := OpR.or op_add (OpR.or op_add_str (OpR.or op_catA op_cat))
theorem DvL.nil_iff {K : PySem.W.Frag} {F : Hp} {as : List Addr} {vs : List V} {ds : List D} (h : DvL K F as vs ds) : vs = [] ↔ ds = [] := by
  cases h with
  | nil => simp
  | cons _ _ => simp
theorem od_add {K : PySem.W.Frag} {ct : Ct} (c : Bool) : OpD K ct (rAddA K) (opAdd c) := fun W n F H as cs x y d e Q ok hx hy h => by
  unfold opAdd at h
  split at h
  · cases hx
    cases hy
    exact .inl ⟨_, _, rfl, rfl, end_ok ok (.int _) h⟩
  · split at h
    · rename_i q
      cases hx
      cases hy
      exact .inr (.inl ⟨_, _, rfl, rfl, szOk_le q, end_ok ok (.str _) h⟩)
    · exact False.elim h
  · split at h
    · rename_i xs ys q
      cases hx with
      | tup t1 l1 =>
        cases hy with
        | tup t2 l2 =>
          refine .inr (.inr (.inl ⟨_, _, _, _, rfl, rfl, SqT.of (ok.fh _ _ t1), SqT.of (ok.fh _ _ t2), by rw [l1.length, l2.length]; exact szOk_le q, fun z => ?_, fun z z2 => ?_, fun z z2 p hp => ?_⟩))
          · rw [l1.nil_iff.mp z] at h
            exact end_ok ok (.tup t2 l2) h
          · rw [l2.nil_iff.mp z2, List.append_nil] at h
            exact end_ok ok (.tup t1 l1) h
          · exact new_tup ok (l1.append l2) h p hp
    · exact False.elim h
  · dsimp only at h
    split at h
    · split at h
      · rename_i e1 e2 q
        obtain ⟨a, ys, rfl, h1, l1⟩ := lst_at ok hx e1
        obtain ⟨b, zs, rfl, h2, l2⟩ := lst_at ok hy e2
        exact .inr (.inr (.inr ⟨a, b, ys, zs, rfl, rfl, h1, h2, by rw [l1.length, l2.length]; exact szOk_le q, new_mk ok (l1.append l2) h⟩))
      · exact False.elim h
    · exact False.elim h
/-- ints; a list n times -/
def opMul (c : Bool) : D → D → M D
  | .int i, .int j => if decide ((-(2 ^ 64) < i ∧ i < 2 ^ 64) ∨ (-(2 ^ 64) < j ∧ j < 2 ^ 64)) = true then M.ret (.int (i * j)) else M.no
  | a, .int k => fun cs => match lstOf cs a with
    | some xs => if (decide (-(2 ^ 63) ≤ k ∧ k < 2 ^ 63) && szOk (xs.length * k.toNat)) = true then mkL c (List.replicate k.toNat xs).flatten cs else .no
    | none => .no
  | _, _ => M.no
def rMulA : R2 := fun x y H Q => (rI CMul (fun i j => .int (i * j)) x y H Q) ∨ rRep x y H Q
theorem op_mulA {X : Cx} : OpR X (binaryOp .Mult) rMulA := OpR.or op_mul op_rep
theorem od_mul {K : PySem.W.Frag} {ct : Ct} (c : Bool) : OpD K ct rMulA (opMul c) := fun W n F H as cs x y d e Q ok hx hy h => by
  unfold opMul at h
  split at h
  · split at h
    · rename_i q
      cases hx
      cases hy
      exact .inl ⟨_, _, rfl, rfl, (show _ ∨ _ from of_decide_eq_true q), end_ok ok (.int _) h⟩
    · exact False.elim h
  · dsimp only at h
    split at h
    · split at h
      · rename_i e1 q
        obtain ⟨a, ys, rfl, h1, l1⟩ := lst_at ok hx e1
        cases hy
        obtain ⟨q1, q2⟩ := Bool.and_eq_true_iff.mp q
        obtain ⟨q3, q4⟩ := of_decide_eq_true q1
        exact .inr ⟨a, _, ys, rfl, rfl, h1, q3, q4, by rw [l1.length]; exact szOk_le q2, new_mk ok l1.flat h⟩
      · exact False.elim h
    · exact False.elim h
  · exact False.elim h
/-! #### - -/
def opNeg : D → M D
  | .int i => M.ret (.int (-i))
  | _ => M.no
theorem ud_neg {K : PySem.W.Frag} {ct : Ct} : UnD K ct (rU fun i => .int (-i)) opNeg := fun W n F H as cs x d Q ok hx h => by
  unfold opNeg at h
  split at h
  · cases hx
    exact ⟨_, rfl, end_ok ok (.int _) h⟩
  · exact False.elim h
/-! #### is None -/
def opIsN (b : Bool) : D → D → M D
  | .non, .non => M.ret (.bl b)
  | _, .non => M.ret (.bl (!b))
  | _, _ => M.no
theorem isN_v {K : PySem.W.Frag} {F : Hp} {as : List Addr} {x : V} {d : D} (h : Dv K F as x d) (q : d = .non → False) : decide (x = .non) = false := decide_eq_false fun e => by
  subst e
  cases h
  exact q rfl
theorem od_isN {K : PySem.W.Frag} {ct : Ct} : OpD K ct (fun x y H Q => y = .non ∧ Q (.bl (decide (x = .non))) H) (opIsN true) := fun W n F H as cs x y d e Q ok hx hy h => by
  unfold opIsN at h
  split at h
  · cases hx
    cases hy
    exact ⟨rfl, end_ok ok (.bl _) h⟩
  · rename_i q
    cases hy
    refine ⟨rfl, ?_⟩
    rw [isN_v hx fun z => q z]
    exact end_ok ok (.bl _) h
  · exact False.elim h
theorem od_notN {K : PySem.W.Frag} {ct : Ct} : OpD K ct (fun x y H Q => y = .non ∧ Q (.bl (!decide (x = .non))) H) (opIsN false) := fun W n F H as cs x y d e Q ok hx hy h => by
  unfold opIsN at h
  split at h
  · cases hx
    cases hy
    exact ⟨rfl, end_ok ok (.bl _) h⟩
  · rename_i q
    cases hy
    refine ⟨rfl, ?_⟩
    rw [isN_v hx fun z => q z]
    exact end_ok ok (.bl _) h
  · exact False.elim h
/-! #### == of data -/
mutual
def pyG (r : Nat → Option PyData) : D → Option PyData
  | .non => some .none
  | .bl b => some (.bool b)
  | .int i => some (.int i)
  | .str x => some (.str x)
  | .tup xs => (pyGL r xs).map .tuple
  | .lst xs => (pyGL r xs).map .list
  | .ref i => r i
  | .dic => none
  | .scr _ => none
def pyGL (r : Nat → Option PyData) : List D → Option (List PyData)
  | [] => some []
  | d :: ds => match pyG r d, pyGL r ds with
    | some p, some ps => some (p :: ps)
    | _, _ => none
end
def pyN (cs : Cs) : Nat → Nat → Option PyData
  | 0, _ => none
  | n + 1, i => match cs[i]? with
    | some xs => (pyGL (pyN cs n) xs).map .list
    | none => none
def py (cs : Cs) (d : D) : Option PyData := pyG (pyN cs 3) d
section
variable {K : PySem.W.Frag} {F H : Hp} {as : List Addr} {cs : Cs}
mutual
theorem pyG_dp (ok : Ok K F H as cs) {r : Nat → Option PyData} (hr : ∀ i p a, r i = some p → as[i]? = some a → Dp K H (.ref a) p) : ∀ {v : V} {d : D} {p : PyData}, Dv K F as v d → pyG r d = some p → Dp K H v p
  | _, _, _, .non, e => by
    cases e
    exact .non
  | _, _, _, .bl b, e => by
    cases e
    exact .bl b
  | _, _, _, .int i, e => by
    cases e
    exact .int i
  | _, _, _, .str x, e => by
    cases e
    exact .str x
  | _, _, p, .tup (ds := ds) h l, e => by
    have e2 : (pyGL r ds).map PyData.tuple = some p := e
    cases q : pyGL r ds with
    | none =>
      rw [q] at e2
      cases e2
    | some ps =>
      rw [q] at e2
      cases e2
      exact .tup (SqT.of (ok.fh _ _ h)) (pyGL_dp ok hr l q)
  | _, _, p, .lst (ds := ds) h l, e => by
    have e2 : (pyGL r ds).map PyData.list = some p := e
    cases q : pyGL r ds with
    | none =>
      rw [q] at e2
      cases e2
    | some ps =>
      rw [q] at e2
      cases e2
      exact .lst (SqL.of (ok.fh _ _ h)) (pyGL_dp ok hr l q)
  | _, _, _, .ref h, e => hr _ _ _ e h
  | _, _, _, .dic _, e => by cases e
  | _, _, _, .scr _, e => by cases e
theorem pyGL_dp (ok : Ok K F H as cs) {r : Nat → Option PyData} (hr : ∀ i p a, r i = some p → as[i]? = some a → Dp K H (.ref a) p) : ∀ {vs : List V} {ds : List D} {ps : List PyData}, DvL K F as vs ds → pyGL r ds = some ps → DpAll K H vs ps
  | _, _, _, .nil, e => by
    cases e
    exact .nil
  | _, _, ps, .cons (d := d) (ds := ds) h t, e => by
    have e2 : (match pyG r d, pyGL r ds with
      | some p, some ps => some (p :: ps)
      | _, _ => none) = some ps := e
    split at e2
    · rename_i p qs e3 e4
      cases e2
      exact .cons (pyG_dp ok hr h e3) (pyGL_dp ok hr t e4)
    · cases e2
end
theorem pyN_dp (ok : Ok K F H as cs) : ∀ (n i : Nat) (p : PyData) (a : Addr), pyN cs n i = some p → as[i]? = some a → Dp K H (.ref a) p
  | 0, _, _, _, e, _ => by cases e
  | n + 1, i, p, a, e, ha => by
    have e2 : (match cs[i]? with
      | some xs => (pyGL (pyN cs n) xs).map PyData.list
      | none => none) = some p := e
    cases hc : cs[i]? with
    | none =>
      rw [hc] at e2
      cases e2
    | some xs =>
      rw [hc] at e2
      have e3 : (pyGL (pyN cs n) xs).map PyData.list = some p := e2
      obtain ⟨_, ys, h1, h2⟩ := ok.cell i a xs ha hc
      cases q : pyGL (pyN cs n) xs with
      | none =>
        rw [q] at e3
        cases e3
      | some ps =>
        rw [q] at e3
        cases e3
        exact .lst (SqL.of h1) (pyGL_dp ok (pyN_dp ok n) h2 q)
theorem py_dp (ok : Ok K F H as cs) {v : V} {d : D} {p : PyData} (h : Dv K F as v d) (e : py cs d = some p) : Dp K H v p := pyG_dp ok (pyN_dp ok 3) h e
end
def opEq (b : Bool) : D → D → M D := fun d e cs => match py cs d, py cs e with
  | some p, some q => if (SeqAt.shaped p && SeqAt.shaped q) = true then .ok (.bl (if b = true then PyData.eqv p q else !PyData.eqv p q)) cs else .no
  | _, _ => .no
theorem od_eq {K : PySem.W.Frag} {ct : Ct} : OpD K ct (rEqD K) (opEq true) := fun W n F H as cs x y d e Q ok hx hy h => by
  unfold opEq at h
  split at h
  · split at h
    · rename_i p q e1 e2 hs
      obtain ⟨s1, s2⟩ := Bool.and_eq_true_iff.mp hs
      exact ⟨p, q, py_dp ok hx e1, py_dp ok hy e2, s1, s2, end_ok ok (.bl _) h⟩
    · exact False.elim h
  · exact False.elim h
theorem od_ne {K : PySem.W.Frag} {ct : Ct} : OpD K ct (rNeD K) (opEq false) := fun W n F H as cs x y d e Q ok hx hy h => by
  unfold opEq at h
  split at h
  · split at h
    · rename_i p q e1 e2 hs
      obtain ⟨s1, s2⟩ := Bool.and_eq_true_iff.mp hs
      exact ⟨p, q, py_dp ok hx e1, py_dp ok hy e2, s1, s2, end_ok ok (.bl _) h⟩
    · exact False.elim h
  · exact False.elim h
/-! #### a[i] -/
def opIx : D → D → M D
  | .tup xs, .int i => M.ofO (atI xs i)
  | .str z, .int i => if szOk z.length = true then (match atI z.cps.toList i with
    | some c => M.ret (.str ⟨#[c]⟩)
    | none => M.no) else M.no
  | a, .int i => fun cs => match seqOf cs a with
    | some xs => M.ofO (atI xs i) cs
    | none => .no
  | _, _ => M.no
theorem atI_dv {K : PySem.W.Frag} {F : Hp} {as : List Addr} {vs : List V} {ds : List D} {i : Int} {d : D} (h : DvL K F as vs ds) (e : atI ds i = some d) : ∃ v, atI vs i = some v ∧ Dv K F as v d := by
  unfold atI at e ⊢
  rw [h.length]
  cases q : ixN ds.length i with
  | none =>
    rw [q] at e
    cases e
  | some j =>
    rw [q] at e
    exact h.get e
theorem od_ix {K : PySem.W.Frag} {ct : Ct} : OpD K ct (rIx K) opIx := fun W n F H as cs x y d e Q ok hx hy h => by
  unfold opIx at h
  split at h
  · rename_i xs i
    cases hy
    cases hx with
    | tup t l =>
      cases q : atI xs i with
      | none =>
        rw [q] at h
        exact False.elim h
      | some z =>
        rw [q] at h
        obtain ⟨v, h1, h2⟩ := atI_dv l q
        exact .inr (.inl ⟨_, _, i, v, rfl, rfl, SqT.of (ok.fh _ _ t), h1, end_ok ok h2 h⟩)
  · split at h
    · rename_i z i q
      cases hx
      cases hy
      cases e1 : atI z.cps.toList i with
      | none =>
        rw [e1] at h
        exact False.elim h
      | some c =>
        rw [e1] at h
        exact .inr (.inr ⟨z, i, c, rfl, rfl, szOk_le q, e1, end_ok ok (.str _) h⟩)
    · exact False.elim h
  · rename_i i _ _
    dsimp only at h
    split at h
    · rename_i xs e1
      cases hy
      obtain ⟨a, ys, rfl, h1, l⟩ := seq_at ok hx e1
      cases q : atI xs i with
      | none =>
        rw [q] at h
        exact False.elim h
      | some z =>
        rw [q] at h
        obtain ⟨v, h2, h3⟩ := atI_dv l q
        exact .inl ⟨a, ys, i, v, rfl, rfl, h1, h2, end_ok ok h3 h⟩
    · exact False.elim h
  · exact False.elim h
/-! #### in, not in: a letter in a text; a text in a tuple of texts; an int in a list of ints -/
def opNotInS : D → D → M D
  | .str c, .str z => match c.cps.toList with
    | [k] => M.ret (.bl (!decide (k ∈ z.cps.toList)))
    | _ => M.no
  | _, _ => M.no
theorem od_notInS {K : PySem.W.Frag} {ct : Ct} : OpD K ct (fun x y H Q => ∃ (c : Nat) (z : Str), x = .str ⟨#[c]⟩ ∧ y = .str z ∧ Q (.bl (!decide (c ∈ z.cps.toList))) H) opNotInS := fun W n F H as cs x y d e Q ok hx hy h => by
  unfold opNotInS at h
  split at h
  · rename_i c z
    obtain ⟨⟨l⟩⟩ := c
    match l, h with
    | [], h => exact False.elim h
    | _ :: _ :: _, h => exact False.elim h
    | [k], h =>
      cases hx
      cases hy
      exact ⟨k, z, rfl, rfl, end_ok ok (.bl _) h⟩
  · exact False.elim h
def flatV? : D → Option V
  | .non => some .non
  | .bl b => some (.bl b)
  | .int i => some (.int i)
  | .str x => some (.str x)
  | _ => none
def flatVs? : List D → Option (List V)
  | [] => some []
  | d :: ds => match flatV? d, flatVs? ds with
    | some v, some vs => some (v :: vs)
    | _, _ => none
theorem flatV_eq {K : PySem.W.Frag} {F : Hp} {as : List Addr} {x w : V} {d : D} (h : Dv K F as x d) (e : flatV? d = some w) : x = w ∧ flatV w = true := by
  cases h <;> first | (cases e; exact ⟨rfl, rfl⟩) | cases e
theorem flatVs_eq {K : PySem.W.Frag} {F : Hp} {as : List Addr} : ∀ {xs ws : List V} {ds : List D}, DvL K F as xs ds → flatVs? ds = some ws → xs = ws ∧ ws.all flatV = true
  | _, _, _, .nil, e => by
    cases e
    exact ⟨rfl, rfl⟩
  | _, ws, _, .cons (d := d) (ds := ds) h t, e => by
    have e2 : (match flatV? d, flatVs? ds with
      | some v, some vs => some (v :: vs)
      | _, _ => none) = some ws := e
    split at e2
    · rename_i v vs e3 e4
      cases e2
      obtain ⟨a1, a2⟩ := flatV_eq h e3
      obtain ⟨b1, b2⟩ := flatVs_eq t e4
      subst a1 b1
      refine ⟨rfl, ?_⟩
      rw [List.all_cons, a2, b2]
      rfl
    · cases e2
def itsOf (cs : Cs) : D → Option (List D)
  | .tup xs => some xs
  | d => seqOf cs d
theorem its_at {K : PySem.W.Frag} {F H : Hp} {as : List Addr} {cs : Cs} {v : V} {d : D} {xs : List D} (ok : Ok K F H as cs) (h : Dv K F as v d) (e : itsOf cs d = some xs) : ∃ a ys, v = .ref a ∧ (SqL K H a ys ∨ SqT K H a ys) ∧ DvL K F as ys xs := by
  cases d with
  | tup zs =>
    cases e
    cases h with
    | tup t l => exact ⟨_, _, rfl, .inr (SqT.of (ok.fh _ _ t)), l⟩
  | _ =>
    obtain ⟨a, ys, h1, h2, h3⟩ := seq_at ok h e
    exact ⟨a, ys, h1, .inl h2, h3⟩
def opIn (neg : Bool) : D → D → M D := fun d e cs => match flatV? d, itsOf cs e with
  | some v, some xs => (match flatVs? xs with
    | some ws => .ok (.bl (if neg = true then !inV v ws else inV v ws)) cs
    | none => .no)
  | _, _ => .no
theorem od_in {K : PySem.W.Frag} {ct : Ct} (neg : Bool) : OpD K ct (rIn K neg) (opIn neg) := fun W n F H as cs x y d e Q ok hx hy h => by
  unfold opIn at h
  split at h
  · split at h
    · rename_i v xs e1 e2 _ ws e3
      obtain ⟨rfl, f1⟩ := flatV_eq hx e1
      obtain ⟨a, ys, rfl, h1, l⟩ := its_at ok hy e2
      obtain ⟨rfl, f2⟩ := flatVs_eq l e3
      exact ⟨a, _, rfl, h1, f1, f2, end_ok ok (.bl _) h⟩
    · exact False.elim h
  · exact False.elim h
/-! ### tests -/
def bVal (a : En → M D) : En → M Bool := fun env => M.bnd (a env) fun d => match d with
  | .bl b => M.ret b
  | _ => M.no
def bAnd (a b : En → M Bool) : En → M Bool := fun env => M.bnd (a env) fun k => if k = true then b env else M.ret false
def bOr (a b : En → M Bool) : En → M Bool := fun env => M.bnd (a env) fun k => if k = true then M.ret true else b env
def bNot (a : En → M Bool) : En → M Bool := fun env => M.bnd (a env) fun k => M.ret (!k)
section
variable {X : Cx} {ct : Ct} {W : WX} {a b : Expr} {rest : List Expr} {ma mb : En → M D} {ba bb : En → M Bool} {pos : Pos}
theorem bv_of {K : PySem.W.Frag} {σ : L2.St} {H : Hp} {Q : Bool → Hp → Prop} (h : tT K ct W (bVal ma) σ H Q) : tD K ct W ma σ H fun x H1 => ∃ k, x = .bl k ∧ Q k H1 := by
  obtain ⟨F, as, env, cs, ok, sl, h⟩ := h
  refine ⟨F, as, env, cs, ok, sl, out_imp (out_bnd h) fun d cs1 F1 H1 as1 g ok1 h1 v hv => ?_⟩
  split at h1
  · cases hv
    exact ⟨_, rfl, out_ok ok1 h1⟩
  · exact False.elim h1
theorem gt_val (h : PE X a (tD X.K ct W ma)) (he : ∀ whole, isTrue a X.env whole = (do let v ← whole; standAt a.pos; holding [v] (truthy v)) := by intro _; rfl) : PT X a (tT X.K ct W (bVal ma)) := PT.imp (pt_val h he) fun _ _ _ h => bv_of h
theorem gt_cmp {op : CmpOp} {r : R2} {f : D → D → M D} (ho : OpR X (compareOp op) r) (od : OpD X.K ct r f) (ha : PE X a (tD X.K ct W ma)) (hb : PE X b (tD X.K ct W mb)) (hm : behindInMarks op b = false) : PT X (.Compare a [op] [b] pos) (tT X.K ct W (bVal (xBin f ma mb))) :=
  PT.imp (pt_cmpR ho ha hb hm) fun _ _ _ h => tOp_of od (bv_of h)
theorem gt_chain {op op' : CmpOp} {r r' : R2} {f g : D → D → M D} {c : Expr} {mc : En → M D} (ho : OpR X (compareOp op) r) (od : OpD X.K ct r f) (ho' : OpR X (compareOp op') r') (od' : OpD X.K ct r' g) (ha : PE X a (tD X.K ct W ma)) (hb : PE X b (tD X.K ct W mb)) (hc : PE X c (tD X.K ct W mc))
    (hm : lastMarks [op, op'] [b, c] = false := by with_unfolding_all rfl) : PT X (.Compare a [op, op'] [b, c] pos) (tT X.K ct W (bVal (xChain f g ma mb mc))) := PT.imp (pt_chain ho ho' ha hb hc hm) fun _ _ _ h => tChain_of od od' (bv_of h)
theorem gw_and1 (h : PT X a (tT X.K ct W ba)) : PW X (.BoolOp .And [a] pos) (tT X.K ct W ba) := pw_and1 h
theorem gw_or1 (h : PT X a (tT X.K ct W ba)) : PW X (.BoolOp .Or [a] pos) (tT X.K ct W ba) := pw_or1 h
theorem PW.imp {e : Expr} {t t' : TT} (h : PW X e t) (k : ∀ σ H Q, t' σ H Q → t σ H Q) : PW X e t' := ⟨fun wh pins s σ H Q I w => h.run wh pins s σ H Q I (k σ H Q w)⟩
theorem and_of {K : PySem.W.Frag} {σ : L2.St} {H : Hp} {Q : Bool → Hp → Prop} (h : tT K ct W (bAnd ba bb) σ H Q) : tAnd (tT K ct W ba) (tT K ct W bb) σ H Q := by
  obtain ⟨F, as, env, cs, ok, sl, h⟩ := h
  refine ⟨F, as, env, cs, ok, sl, out_imp (out_bnd h) fun k cs1 F1 H1 as1 g ok1 h1 => ?_⟩
  cases k with
  | true => exact ⟨F1, as1, env, cs1, ok1, sl.gro g, h1⟩
  | false => exact out_ok ok1 h1
theorem or_of {K : PySem.W.Frag} {σ : L2.St} {H : Hp} {Q : Bool → Hp → Prop} (h : tT K ct W (bOr ba bb) σ H Q) : tOr (tT K ct W ba) (tT K ct W bb) σ H Q := by
  obtain ⟨F, as, env, cs, ok, sl, h⟩ := h
  refine ⟨F, as, env, cs, ok, sl, out_imp (out_bnd h) fun k cs1 F1 H1 as1 g ok1 h1 => ?_⟩
  cases k with
  | true => exact out_ok ok1 h1
  | false => exact ⟨F1, as1, env, cs1, ok1, sl.gro g, h1⟩
theorem gw_and (ha : PT X a (tT X.K ct W ba)) (hb : PW X (.BoolOp .And (b :: rest) pos) (tT X.K ct W bb)) : PW X (.BoolOp .And (a :: b :: rest) pos) (tT X.K ct W (bAnd ba bb)) := PW.imp (pw_and ha hb) fun _ _ _ => and_of
theorem gw_or (ha : PT X a (tT X.K ct W ba)) (hb : PW X (.BoolOp .Or (b :: rest) pos) (tT X.K ct W bb)) : PW X (.BoolOp .Or (a :: b :: rest) pos) (tT X.K ct W (bOr ba bb)) := PW.imp (pw_or ha hb) fun _ _ _ => or_of
theorem gt_not (ha : PT X a (tT X.K ct W ba)) : PT X (.UnaryOp .Not a pos) (tT X.K ct W (bNot ba)) := PT.imp (pt_not ha) (by
  rintro σ H Q ⟨F, as, env, cs, ok, sl, h⟩
  exact ⟨F, as, env, cs, ok, sl, out_imp (out_bnd h) fun k cs1 F1 H1 as1 g ok1 h1 => out_ok ok1 h1⟩)
/-! as values -/
def xAnd (a b : En → M D) : En → M D := fun env => M.bnd (a env) fun d => match d with
  | .bl true => b env
  | .bl false => M.ret (.bl false)
  | _ => M.no
def xOr (a b : En → M D) : En → M D := fun env => M.bnd (a env) fun d => match d with
  | .bl true => M.ret (.bl true)
  | .bl false => b env
  | _ => M.no
def xNot (a : En → M D) : En → M D := fun env => M.bnd (a env) fun d => match d with
  | .bl k => M.ret (.bl (!k))
  | _ => M.no
theorem ge_one {op} (h : PE X a (tD X.K ct W ma)) : PE X (.BoolOp op [a] pos) (tD X.K ct W ma) := pe_one h
theorem ge_and (ha : PE X a (tD X.K ct W ma)) (hb : PE X (.BoolOp .And (b :: rest) pos) (tD X.K ct W mb)) : PE X (.BoolOp .And (a :: b :: rest) pos) (tD X.K ct W (xAnd ma mb)) := PE.imp (pe_and ha hb) (by
  rintro σ H Q ⟨F, as, env, cs, ok, sl, h⟩
  refine ⟨F, as, env, cs, ok, sl, out_imp (out_bnd h) fun d cs1 F1 H1 as1 g ok1 h1 v hv => ?_⟩
  split at h1
  · cases hv
    exact ⟨true, rfl, F1, as1, env, cs1, ok1, sl.gro g, h1⟩
  · cases hv
    exact ⟨false, rfl, end_ok ok1 (.bl false) h1⟩
  · exact False.elim h1)
theorem ge_or (ha : PE X a (tD X.K ct W ma)) (hb : PE X (.BoolOp .Or (b :: rest) pos) (tD X.K ct W mb)) : PE X (.BoolOp .Or (a :: b :: rest) pos) (tD X.K ct W (xOr ma mb)) := PE.imp (pe_or ha hb) (by
  rintro σ H Q ⟨F, as, env, cs, ok, sl, h⟩
  refine ⟨F, as, env, cs, ok, sl, out_imp (out_bnd h) fun d cs1 F1 H1 as1 g ok1 h1 v hv => ?_⟩
  split at h1
  · cases hv
    exact ⟨true, rfl, end_ok ok1 (.bl true) h1⟩
  · cases hv
    exact ⟨false, rfl, F1, as1, env, cs1, ok1, sl.gro g, h1⟩
  · exact False.elim h1)
theorem ge_not (ha : PE X a (tD X.K ct W ma)) : PE X (.UnaryOp .Not a pos) (tD X.K ct W (xNot ma)) := PE.imp (pe_not ha) (by
  rintro σ H Q ⟨F, as, env, cs, ok, sl, h⟩
  refine ⟨F, as, env, cs, ok, sl, out_imp (out_bnd h) fun d cs1 F1 H1 as1 g ok1 h1 v hv => ?_⟩
  split at h1
  · cases hv
    exact ⟨_, rfl, end_ok ok1 (.bl _) h1⟩
  · exact False.elim h1)
end
/-! ### argument lists, displays, calls of built-ins -/
def aNil : En → M (List D) := fun _ => M.ret []
def aCons (a : En → M D) (r : En → M (List D)) : En → M (List D) := fun env => M.bnd (a env) fun d => M.bnd (r env) fun ds => M.ret (d :: ds)
def xTup (a : En → M (List D)) : En → M D := fun env => M.bnd (a env) fun ds => if szOk ds.length = true then M.ret (.tup ds) else M.no
def xLst (c : Bool) (a : En → M (List D)) : En → M D := fun env => M.bnd (a env) fun ds => if szOk ds.length = true then mkL c ds else M.no
def xCall (g : List D → M D) (a : En → M (List D)) : En → M D := fun env => M.bnd (a env) g
def CallD (K : PySem.W.Frag) (ct : Ct) (r : List V → Hp → VK → Prop) (g : List D → M D) : Prop :=
  ∀ (W : WX) (n : Nat) (F H : Hp) (as : List Addr) (cs : Cs) (xs : List V) (ds : List D) (Q : VK), Ok K F H as cs → DvL K F as xs ds → out K ct W n F H as (g ds cs) (oD K Q) → r xs H Q
section
variable {X : Cx} {ct : Ct} {W : WX} {a e : Expr} {es : List Expr} {ma : En → M D} {mas : En → M (List D)} {pos : Pos}
theorem ga_nil : PA X [] (tA X.K ct W aNil) := PA.imp pa_nil (by
  rintro σ H Q ⟨F, as, env, cs, ok, sl, h⟩
  exact out_ok ok h _ .nil)
theorem ga_cons (ha : PE X e (tD X.K ct W ma)) (hr : PA X es (tA X.K ct W mas)) (hs : starEach (e :: es) X.env = (false, eval e X.env) :: starEach es X.env := by rfl) : PA X (e :: es) (tA X.K ct W (aCons ma mas)) := PA.imp (pa_cons ha hr hs) (by
  rintro σ H Q ⟨F, as, env, cs, ok, sl, h⟩
  refine ⟨F, as, env, cs, ok, sl, out_imp (out_bnd h) fun d cs1 F1 H1 as1 g ok1 h1 v hv => ?_⟩
  refine ⟨F1, as1, env, cs1, ok1, sl.gro g, out_imp (out_bnd h1) fun ds cs2 F2 H2 as2 g2 ok2 h2 vs hvs => ?_⟩
  exact out_ok ok2 h2 _ (.cons (hv.gro g2) hvs))
theorem ge_tup {k} (h : PA X es (tA X.K ct W mas)) : PE X (.Tuple es k pos) (tD X.K ct W (xTup mas)) := PE.imp (pe_tup h) (by
  rintro σ H Q ⟨F, as, env, cs, ok, sl, h⟩
  refine ⟨F, as, env, cs, ok, sl, out_imp (out_bnd h) fun ds cs1 F1 H1 as1 g ok1 h1 vs hvs => ?_⟩
  split at h1
  · rename_i q
    exact ⟨by rw [hvs.length]; exact szOk_le q, new_tup ok1 hvs h1⟩
  · exact False.elim h1)
theorem ge_lst (c : Bool) (h : PA X es (tA X.K ct W mas)) : PE X (.List es pos) (tD X.K ct W (xLst c mas)) := PE.imp (pe_lst h) (by
  rintro σ H Q ⟨F, as, env, cs, ok, sl, h⟩
  refine ⟨F, as, env, cs, ok, sl, out_imp (out_bnd h) fun ds cs1 F1 H1 as1 g ok1 h1 vs hvs => ?_⟩
  split at h1
  · rename_i q
    exact ⟨by rw [hvs.length]; exact szOk_le q, new_mk ok1 hvs h1⟩
  · exact False.elim h1)
theorem tCB_of {K : PySem.W.Frag} {r : List V → Hp → VK → Prop} {g : List D → M D} (cd : CallD K ct r g) {σ : L2.St} {H : Hp} {Q : VK} (h : tD K ct W (xCall g mas) σ H Q) : tCB r (tA K ct W mas) σ H Q := by
  obtain ⟨F, as, env, cs, ok, sl, h⟩ := h
  exact ⟨F, as, env, cs, ok, sl, out_imp (out_bnd h) fun ds cs1 F1 H1 as1 g ok1 h1 vs hvs => cd W _ F1 H1 as1 cs1 vs ds Q ok1 hvs h1⟩
variable {x : Str} {p : Pos} {id T : String} {r : List V → Hp → VK → Prop} {g : List D → M D}
theorem ge_callB (hc : CallR X (.builtin id) r) (cd : CallD X.K ct r g) (hg : Gl X x) (hm : X.mg x = none) (hv : bootBuiltins x = some (.builtin id)) (ha : PA X (e :: es) (tA X.K ct W mas)) (hn : x ≠ "__name__" := by decide) (hdb : (x == ("__debug__" : Str)) = false := by decide)
    (he : starEach (e :: es) X.env = (false, eval e X.env) :: starEach es X.env := by rfl) (hpl : (backTo pos (starEach es X.env)).any (·.1) = false := by rfl) : PE X (.Call (.Name x p) (e :: es) [] pos) (tD X.K ct W (xCall g mas)) :=
  PE.imp (pe_callB hc hg hm hv ha hn hdb he hpl) fun _ _ _ => tCB_of cd
theorem ge_callTy (hc : CallR X (.type T) r) (cd : CallD X.K ct r g) (hg : Gl X x) (hm : X.mg x = none) (hv : bootBuiltins x = some (.type T)) (ha : PA X (e :: es) (tA X.K ct W mas)) (hn : x ≠ "__name__" := by decide) (hdb : (x == ("__debug__" : Str)) = false := by decide)
    (he : starEach (e :: es) X.env = (false, eval e X.env) :: starEach es X.env := by rfl) (hpl : (backTo pos (starEach es X.env)).any (·.1) = false := by rfl) : PE X (.Call (.Name x p) (e :: es) [] pos) (tD X.K ct W (xCall g mas)) :=
  PE.imp (pe_callTy hc hg hm hv ha hn hdb he hpl) fun _ _ _ => tCB_of cd
end
end G
/-! G2: built-ins, slices, what is walked, comprehensions. -/
namespace G
open L2 PySem PySem.Spec PyProof.Rows
/-! ### len -/
def opLen : List D → M D
  | [.str x] => if szOk x.length = true then M.ret (.int x.length) else M.no
  | [d] => fun cs => match itsOf cs d with
    | some xs => .ok (.int xs.length) cs
    | none => .no
  | _ => M.no
section
variable {K : PySem.W.Frag} {ct : Ct}
theorem dvl1 {F : Hp} {as : List Addr} {vs : List V} {d : D} (h : DvL K F as vs [d]) : ∃ v, vs = [v] ∧ Dv K F as v d := by
  cases h with
  | cons h1 h2 =>
    cases h2
    exact ⟨_, rfl, h1⟩
theorem dvl2 {F : Hp} {as : List Addr} {vs : List V} {d e : D} (h : DvL K F as vs [d, e]) : ∃ v u, vs = [v, u] ∧ Dv K F as v d ∧ Dv K F as u e := by
  cases h with
  | cons h1 h2 =>
    obtain ⟨u, rfl, h3⟩ := dvl1 h2
    exact ⟨_, u, rfl, h1, h3⟩
theorem dvl3 {F : Hp} {as : List Addr} {vs : List V} {d e f : D} (h : DvL K F as vs [d, e, f]) : ∃ v u w, vs = [v, u, w] ∧ Dv K F as v d ∧ Dv K F as u e ∧ Dv K F as w f := by
  cases h with
  | cons h1 h2 =>
    obtain ⟨u, w, rfl, h3, h4⟩ := dvl2 h2
    exact ⟨_, u, w, rfl, h1, h3, h4⟩
theorem cd_len : CallD K ct (fun xs H Q => ∃ x n, xs = [x] ∧ LenV K x H n ∧ Q (.int n) H) opLen := fun W n F H as cs vs ds Q ok hv h => by
  unfold opLen at h
  split at h
  · split at h
    · rename_i x q
      obtain ⟨v, rfl, h1⟩ := dvl1 hv
      cases h1
      exact ⟨_, x.length, rfl, ⟨szOk_le q, rfl⟩, end_ok ok (.int _) h⟩
    · exact False.elim h
  · obtain ⟨v, rfl, h1⟩ := dvl1 hv
    try dsimp only at h
    split at h
    · rename_i xs e
      obtain ⟨a, ys, rfl, h2, l⟩ := its_at ok h1 e
      refine ⟨_, ys.length, rfl, ?_, by rw [l.length]; exact end_ok ok (.int _) h⟩
      rcases h2 with h2 | h2
      · exact .inl ⟨ys, h2, rfl⟩
      · exact .inr ⟨ys, h2, rfl⟩
    · exact False.elim h
  · exact False.elim h
/-! ### max, min, abs, int -/
def opMax2 : List D → M D
  | [.int i, .int j] => M.ret (.int (if j > i then j else i))
  | _ => M.no
def opMin2 : List D → M D
  | [.int i, .int j] => M.ret (.int (if j < i then j else i))
  | _ => M.no
def opMax3 : List D → M D
  | [.int a, .int b, .int c] => M.ret (.int (if b > a then (if c > b then c else b) else (if c > a then c else a)))
  | _ => M.no
def opAbs : List D → M D
  | [.int i] => M.ret (.int (if i < 0 then -i else i))
  | _ => M.no
def opInt : List D → M D
  | [.int i] => M.ret (.int i)
  | [.bl k] => M.ret (.int (if k then 1 else 0))
  | _ => M.no
theorem cd_max2 : CallD K ct (fun xs H Q => ∃ i j, xs = [.int i, .int j] ∧ Q (.int (if j > i then j else i)) H) opMax2 := fun W n F H as cs vs ds Q ok hv h => by
  unfold opMax2 at h
  split at h
  · obtain ⟨_, _, rfl, h1, h2⟩ := dvl2 hv
    cases h1
    cases h2
    exact ⟨_, _, rfl, end_ok ok (.int _) h⟩
  · exact False.elim h
theorem cd_min2 : CallD K ct (fun xs H Q => ∃ i j, xs = [.int i, .int j] ∧ Q (.int (if j < i then j else i)) H) opMin2 := fun W n F H as cs vs ds Q ok hv h => by
  unfold opMin2 at h
  split at h
  · obtain ⟨_, _, rfl, h1, h2⟩ := dvl2 hv
    cases h1
    cases h2
    exact ⟨_, _, rfl, end_ok ok (.int _) h⟩
  · exact False.elim h
theorem cr_max3 {X : Cx} (hc : X.calm = true) : CallR X (.builtin "max") (fun xs H Q => ∃ a b c, xs = [.int a, .int b, .int c] ∧ Q (.int (if b > a then (if c > b then c else b) else (if c > a then c else a))) H) := by
  intro pins s σ H xs us Q I r h
  obtain ⟨a, b, c, rfl, q⟩ := h
  cases r with
  | cons r1 r =>
    obtain ⟨u2, u3, rfl, ⟨t2, rfl⟩, ⟨t3, rfl⟩⟩ := vals2 r
    obtain ⟨t1, rfl⟩ := r1
    refine PySem.max_three_ints (I.ok.hd hc) fun h' tk k => ⟨_, H, I.kept k, ?_, q⟩
    by_cases hba : b > a <;> by_cases hc1 : c > b <;> by_cases hc2 : c > a <;> simp only [hba, hc1, hc2, if_true, if_false] <;> exact ⟨_, rfl⟩
theorem cd_max3 : CallD K ct (fun xs H Q => ∃ a b c, xs = [.int a, .int b, .int c] ∧ Q (.int (if b > a then (if c > b then c else b) else (if c > a then c else a))) H) opMax3 := fun W n F H as cs vs ds Q ok hv h => by
  unfold opMax3 at h
  split at h
  · obtain ⟨_, _, _, rfl, h1, h2, h3⟩ := dvl3 hv
    cases h1
    cases h2
    cases h3
    exact ⟨_, _, _, rfl, end_ok ok (.int _) h⟩
  · exact False.elim h
theorem cd_abs : CallD K ct (fun xs H Q => ∃ i, xs = [.int i] ∧ Q (.int (if i < 0 then -i else i)) H) opAbs := fun W n F H as cs vs ds Q ok hv h => by
  unfold opAbs at h
  split at h
  · obtain ⟨_, rfl, h1⟩ := dvl1 hv
    cases h1
    exact ⟨_, rfl, end_ok ok (.int _) h⟩
  · exact False.elim h
theorem cd_int : CallD K ct (fun xs H Q => (∃ i, xs = [.int i] ∧ Q (.int i) H) ∨ ∃ k, xs = [.bl k] ∧ Q (.int (if k then 1 else 0)) H) opInt := fun W n F H as cs vs ds Q ok hv h => by
  unfold opInt at h
  split at h
  · obtain ⟨_, rfl, h1⟩ := dvl1 hv
    cases h1
    exact .inl ⟨_, rfl, end_ok ok (.int _) h⟩
  · obtain ⟨_, rfl, h1⟩ := dvl1 hv
    cases h1
    exact .inr ⟨_, rfl, end_ok ok (.int _) h⟩
  · exact False.elim h
/-! ### list(xs), tuple(xs) -/
def opList (c : Bool) : List D → M D
  | [d] => fun cs => match itsOf cs d with
    | some xs => mkL c xs cs
    | none => .no
  | _ => M.no
def opTuple : List D → M D
  | [d] => fun cs => match seqOf cs d with
    | some xs => .ok (.tup xs) cs
    | none => .no
  | _ => M.no
theorem cd_list (c : Bool) : CallD K ct (fun xs H Q => ∃ p ys, xs = [.ref p] ∧ (SqL K H p ys ∨ SqT K H p ys) ∧ ∀ l, H l = none → Q (.ref l) (upd H l (.lst ys))) (opList c) := fun W n F H as cs vs ds Q ok hv h => by
  unfold opList at h
  split at h
  · obtain ⟨v, rfl, h1⟩ := dvl1 hv
    try dsimp only at h
    split at h
    · rename_i xs e
      obtain ⟨a, ys, rfl, h2, l⟩ := its_at ok h1 e
      exact ⟨a, ys, rfl, h2, new_mk ok l h⟩
    · exact False.elim h
  · exact False.elim h
theorem cd_tuple : CallD K ct (fun xs H Q => ∃ p ys, xs = [.ref p] ∧ ((SqL K H p ys ∧ ∀ l, H l = none → Q (.ref l) (upd H l (.tup ys))) ∨ (SqT K H p ys ∧ Q (.ref p) H))) opTuple := fun W n F H as cs vs ds Q ok hv h => by
  unfold opTuple at h
  split at h
  · obtain ⟨v, rfl, h1⟩ := dvl1 hv
    try dsimp only at h
    split at h
    · rename_i xs e
      obtain ⟨a, ys, rfl, h2, l⟩ := seq_at ok h1 e
      exact ⟨a, ys, rfl, .inl ⟨h2, new_tup ok l h⟩⟩
    · exact False.elim h
  · exact False.elim h
/-! ### sum, all -/
def intsOf : List D → Option (List Int)
  | [] => some []
  | .int i :: r => (intsOf r).map (i :: ·)
  | _ => none
def blsOf : List D → Option (List Bool)
  | [] => some []
  | .bl i :: r => (blsOf r).map (i :: ·)
  | _ => none
theorem intsOf_eq {F : Hp} {as : List Addr} : ∀ {vs : List V} {ds : List D} {ns : List Int}, DvL K F as vs ds → intsOf ds = some ns → vs = ns.map V.int
  | _, _, _, .nil, e => by
    cases e
    rfl
  | _, _, ns, .cons (d := d) (ds := ds) h t, e => by
    cases h with
    | int i =>
      have e2 : (intsOf ds).map (i :: ·) = some ns := e
      cases q : intsOf ds with
      | none =>
        rw [q] at e2
        cases e2
      | some r =>
        rw [q] at e2
        cases e2
        rw [intsOf_eq t q]
        rfl
    | _ => cases e
theorem blsOf_eq {F : Hp} {as : List Addr} : ∀ {vs : List V} {ds : List D} {ns : List Bool}, DvL K F as vs ds → blsOf ds = some ns → vs = ns.map V.bl
  | _, _, _, .nil, e => by
    cases e
    rfl
  | _, _, ns, .cons (d := d) (ds := ds) h t, e => by
    cases h with
    | bl i =>
      have e2 : (blsOf ds).map (i :: ·) = some ns := e
      cases q : blsOf ds with
      | none =>
        rw [q] at e2
        cases e2
      | some r =>
        rw [q] at e2
        cases e2
        rw [blsOf_eq t q]
        rfl
    | _ => cases e
def opSum : List D → M D
  | [d] => fun cs => match (seqOf cs d).bind intsOf with
    | some ns => .ok (.int ns.sum) cs
    | none => .no
  | _ => M.no
def opAll : List D → M D
  | [d] => fun cs => match (seqOf cs d).bind blsOf with
    | some bs => .ok (.bl (bs.all id)) cs
    | none => .no
  | _ => M.no
theorem cd_sum : CallD K ct (rSum K) opSum := fun W n F H as cs vs ds Q ok hv h => by
  unfold opSum at h
  split at h
  · obtain ⟨v, rfl, h1⟩ := dvl1 hv
    try dsimp only at h
    split at h
    · rename_i ns e
      obtain ⟨xs, e1, e2⟩ := Option.bind_eq_some_iff.mp e
      obtain ⟨a, ys, rfl, h2, l⟩ := seq_at ok h1 e1
      rw [intsOf_eq l e2] at h2
      exact ⟨a, ns, rfl, h2, end_ok ok (.int _) h⟩
    · exact False.elim h
  · exact False.elim h
theorem cd_all : CallD K ct (rAll K) opAll := fun W n F H as cs vs ds Q ok hv h => by
  unfold opAll at h
  split at h
  · obtain ⟨v, rfl, h1⟩ := dvl1 hv
    try dsimp only at h
    split at h
    · rename_i ns e
      obtain ⟨xs, e1, e2⟩ := Option.bind_eq_some_iff.mp e
      obtain ⟨a, ys, rfl, h2, l⟩ := seq_at ok h1 e1
      rw [blsOf_eq l e2] at h2
      exact ⟨a, ns, rfl, h2, end_ok ok (.bl _) h⟩
    · exact False.elim h
  · exact False.elim h
/-! ### sorted, of pairs of ints -/
def pairD (p : Int × Int) : D := .tup [.int p.1, .int p.2]
def pairsOf : List D → Option (List (Int × Int))
  | [] => some []
  | .tup [.int i, .int j] :: r => (pairsOf r).map ((i, j) :: ·)
  | _ => none
theorem pairsOf_map : ∀ {ds : List D} {ps : List (Int × Int)}, pairsOf ds = some ps → ds = ps.map pairD
  | [], ps, e => by
    cases e
    rfl
  | .tup [.int i, .int j] :: r, ps, e => by
    have e2 : (pairsOf r).map ((i, j) :: ·) = some ps := e
    cases q : pairsOf r with
    | none =>
      rw [q] at e2
      cases e2
    | some s =>
      rw [q] at e2
      cases e2
      rw [pairsOf_map q]
      rfl
  | .non :: _, _, e | .bl _ :: _, _, e | .int _ :: _, _, e | .str _ :: _, _, e | .lst _ :: _, _, e | .ref _ :: _, _, e | .dic :: _, _, e | .scr _ :: _, _, e => by cases e
  | .tup [] :: _, _, e | .tup [_] :: _, _, e | .tup (_ :: _ :: _ :: _) :: _, _, e => by
    first
      | cases e
      | (simp [pairsOf] at e)
  | .tup [.int _, .non] :: _, _, e | .tup [.int _, .bl _] :: _, _, e | .tup [.int _, .str _] :: _, _, e | .tup [.int _, .tup _] :: _, _, e | .tup [.int _, .lst _] :: _, _, e | .tup [.int _, .ref _] :: _, _, e | .tup [.int _, .dic] :: _, _, e | .tup [.int _, .scr _] :: _, _, e => by cases e
  | .tup [.non, _] :: _, _, e | .tup [.bl _, _] :: _, _, e | .tup [.str _, _] :: _, _, e | .tup [.tup _, _] :: _, _, e | .tup [.lst _, _] :: _, _, e | .tup [.ref _, _] :: _, _, e | .tup [.dic, _] :: _, _, e | .tup [.scr _, _] :: _, _, e => by cases e
/-- lexicographic -/
def lexLe (p q : Int × Int) : Bool := decide (p.1 < q.1 ∨ (p.1 = q.1 ∧ p.2 ≤ q.2))
def insP (p : Int × Int) : List (Int × Int) → List (Int × Int)
  | [] => [p]
  | q :: r => if lexLe p q = true then p :: q :: r else q :: insP p r
def sortP : List (Int × Int) → List (Int × Int)
  | [] => []
  | p :: r => insP p (sortP r)
theorem lexLe_total (p q : Int × Int) (h : ¬ lexLe p q = true) : lexLe q p = true := by
  unfold lexLe at h ⊢
  rw [decide_eq_true_eq] at h ⊢
  omega
theorem lexLe_trans {p q r : Int × Int} (h : lexLe p q = true) (h2 : lexLe q r = true) : lexLe p r = true := by
  unfold lexLe at h h2 ⊢
  rw [decide_eq_true_eq] at h h2 ⊢
  omega
theorem lexLe_anti {p q : Int × Int} (h : lexLe p q = true) (h2 : lexLe q p = true) : p = q := by
  unfold lexLe at h h2
  rw [decide_eq_true_eq] at h h2
  exact Prod.ext (by omega) (by omega)
theorem insP_perm (p : Int × Int) : ∀ l, (insP p l).Perm (p :: l)
  | [] => List.Perm.refl _
  | q :: r => by
    unfold insP
    split
    · exact List.Perm.refl _
    · exact ((insP_perm p r).cons q).trans (List.Perm.swap p q r)
theorem sortP_perm : ∀ l, (sortP l).Perm l
  | [] => List.Perm.refl _
  | p :: r => (insP_perm p (sortP r)).trans ((sortP_perm r).cons p)
theorem insP_sorted (p : Int × Int) : ∀ l, l.Pairwise (fun a b => lexLe a b = true) → (insP p l).Pairwise fun a b => lexLe a b = true
  | [], _ => List.pairwise_singleton _ _
  | q :: r, h => by
    unfold insP
    split
    · rename_i hp
      refine List.pairwise_cons.mpr ⟨fun x hx => ?_, h⟩
      rcases List.mem_cons.mp hx with e | e
      · rw [e]
        exact hp
      · exact lexLe_trans hp ((List.pairwise_cons.mp h).1 x e)
    · rename_i hp
      refine List.pairwise_cons.mpr ⟨fun x hx => ?_, insP_sorted p r (List.pairwise_cons.mp h).2⟩
      rcases List.mem_cons.mp ((insP_perm p r).mem_iff.mp hx) with e | e
      · rw [e]
        exact lexLe_total p q hp
      · exact (List.pairwise_cons.mp h).1 x e
theorem sortP_sorted : ∀ l, (sortP l).Pairwise fun a b => lexLe a b = true
  | [] => List.Pairwise.nil
  | p :: r => insP_sorted p _ (sortP_sorted r)
theorem sorted_one : ∀ {l m : List (Int × Int)}, l.Perm m → l.Pairwise (fun a b => lexLe a b = true) → m.Pairwise (fun a b => lexLe a b = true) → l = m
  | [], m, p, _, _ => (List.nil_perm.mp p).symm
  | a :: l, [], p, _, _ => absurd p.length_eq (by simp)
  | a :: l, b :: m, p, h1, h2 => by
    have e : a = b := by
      have ha : a ∈ b :: m := p.mem_iff.mp List.mem_cons_self
      have hb : b ∈ a :: l := p.mem_iff.mpr List.mem_cons_self
      rcases List.mem_cons.mp ha with z | z
      · exact z
      · rcases List.mem_cons.mp hb with y | y
        · exact y.symm
        · exact lexLe_anti ((List.pairwise_cons.mp h1).1 b y) ((List.pairwise_cons.mp h2).1 a z)
    subst e
    rw [sorted_one ((List.perm_cons a).mp p) (List.pairwise_cons.mp h1).2 (List.pairwise_cons.mp h2).2]
def opSorted (c : Bool) : List D → M D
  | [d] => fun cs => match (seqOf cs d).bind pairsOf with
    | some ps => mkL c ((sortP ps).map pairD) cs
    | none => .no
  | _ => M.no
theorem cd_sorted (c : Bool) : CallD K ct (rSortedPO K) (opSorted c) := fun W n F H as cs vs ds Q ok hv h => by
  unfold opSorted at h
  split at h
  · obtain ⟨v, rfl, h1⟩ := dvl1 hv
    try dsimp only at h
    split at h
    · rename_i ps e
      obtain ⟨xs, e1, e2⟩ := Option.bind_eq_some_iff.mp e
      obtain ⟨a, ys, rfl, h2, l⟩ := seq_at ok h1 e1
      have ex := pairsOf_map e2
      -- each item's pair
      have key : ∀ y ∈ ys, ∃ p : Int × Int, p ∈ ps ∧ ∃ t, y = V.ref t ∧ F t = some (.tup [.int p.1, .int p.2]) := fun y hy => by
        obtain ⟨i, hi⟩ := List.mem_iff_getElem?.mp hy
        obtain ⟨d, hd, hv⟩ := l.getV hi
        rw [ex, List.getElem?_map] at hd
        cases q : ps[i]? with
        | none =>
          rw [q] at hd
          cases hd
        | some p =>
          rw [q] at hd
          have ed : pairD p = d := Option.some.inj hd
          subst ed
          cases hv with
          | tup ht hl =>
            obtain ⟨u1, u2, rfl, w1, w2⟩ := dvl2 hl
            cases w1
            cases w2
            exact ⟨p, List.mem_of_getElem? q, _, rfl, ht⟩
      let k : V → Int × Int := fun y => match y with
        | .ref t => (match F t with
          | some (.tup [.int i, .int j]) => (i, j)
          | _ => (0, 0))
        | _ => (0, 0)
      have hk : ∀ t i j, F t = some (.tup [.int i, .int j]) → k (.ref t) = (i, j) := fun t i j e => by
        show (match F t with
          | some (.tup [.int i, .int j]) => (i, j)
          | _ => (0, 0)) = (i, j)
        rw [e]
      have hmap : ys.map k = ps := by
        apply List.ext_getElem?
        intro i
        rw [List.getElem?_map]
        cases q : ys[i]? with
        | none =>
          have hl := l.length
          rw [ex, List.length_map] at hl
          have : ys.length ≤ i := List.getElem?_eq_none_iff.mp q
          rw [List.getElem?_eq_none (by omega)]
          rfl
        | some y =>
          obtain ⟨d, hd, hv⟩ := l.getV q
          rw [ex, List.getElem?_map] at hd
          cases q2 : ps[i]? with
          | none =>
            rw [q2] at hd
            cases hd
          | some p =>
            rw [q2] at hd
            have ed : pairD p = d := Option.some.inj hd
            subst ed
            cases hv with
            | tup ht hl =>
              obtain ⟨u1, u2, rfl, w1, w2⟩ := dvl2 hl
              cases w1
              cases w2
              rw [Option.map_some, hk _ _ _ ht]
      refine ⟨a, ys, k, rfl, h2, fun y hy => ?_, fun zs p hs hb hp => ?_⟩
      · obtain ⟨q, _, t, rfl, ht⟩ := key y hy
        exact ⟨t, rfl, by rw [hk _ _ _ ht]; exact ok.fh _ _ ht⟩
      · have hz : zs.map k = sortP ps := by
          refine sorted_one ((hb.perm.map k).trans (by rw [hmap]; exact (sortP_perm ps).symm)) ?_ (sortP_sorted ps)
          rw [List.pairwise_map]
          refine List.Pairwise.imp (fun {x y} hxy => ?_) hs
          have := SrtO.lexB_no.mp hxy
          unfold lexLe
          rw [decide_eq_true_eq]
          omega
        have hd : DvL K F as zs ((sortP ps).map pairD) := by
          rw [← hz, List.map_map]
          have sub : ∀ y ∈ zs, ∃ p : Int × Int, p ∈ ps ∧ ∃ t, y = V.ref t ∧ F t = some (.tup [.int p.1, .int p.2]) := fun y hy => key y (hb.perm.mem_iff.mp hy)
          clear hs hb hz
          induction zs with
          | nil => exact .nil
          | cons y r ih =>
            refine .cons ?_ (ih fun y hy => sub y (List.mem_cons_of_mem _ hy))
            obtain ⟨q, _, t, rfl, ht⟩ := sub y List.mem_cons_self
            show Dv K F as (.ref t) (pairD (k (.ref t)))
            rw [hk _ _ _ ht]
            exact .tup ht (.cons (.int _) (.cons (.int _) .nil))
        exact new_mk ok hd h p hp
    · exact False.elim h
  · exact False.elim h
end
/-! ### join -/
def strsOf : List D → Option (List Str)
  | [] => some []
  | .str i :: r => (strsOf r).map (i :: ·)
  | _ => none
section
variable {K : PySem.W.Frag} {ct : Ct}
theorem strsOf_eq {F : Hp} {as : List Addr} : ∀ {vs : List V} {ds : List D} {ns : List Str}, DvL K F as vs ds → strsOf ds = some ns → vs = ns.map V.str
  | _, _, _, .nil, e => by
    cases e
    rfl
  | _, _, ns, .cons (d := d) (ds := ds) h t, e => by
    cases h with
    | str i =>
      have e2 : (strsOf ds).map (i :: ·) = some ns := e
      cases q : strsOf ds with
      | none =>
        rw [q] at e2
        cases e2
      | some r =>
        rw [q] at e2
        cases e2
        rw [strsOf_eq t q]
        rfl
    | _ => cases e
end
def opJoin (a : Str) : D → M D := fun d cs => match (seqOf cs d).bind strsOf with
  | some ys => if szOk ((ys.map (·.length)).sum + ys.length * a.length) = true then .ok (.str (Txt.join a ys)) cs else .no
  | none => .no
section
variable {X : Cx} {ct : Ct} {W : WX} {a e : Expr} {ma me : En → M D} {pos apos : Pos}
theorem ge_join {z : Str} {j : Nat} {zp : Pos} (he : PE X e (tD X.K ct W me)) (hs : starEach [e] X.env = [(false, eval e X.env)] := by rfl) (hbase : attributeBase (.Constant (.str z) j zp) "join" X.env (eval (.Constant (.str z) j zp) X.env) = eval (.Constant (.str z) j zp) X.env := by rfl) (hline : (apos.endLine == pos.line) = true := by rfl) :
    PE X (.Call (.Attribute (.Constant (.str z) j zp) "join" apos) [e] [] pos) (tD X.K ct W (xUn (opJoin z) me)) := PE.imp (pe_join pe_str he hs hbase hline) (by
  rintro σ H Q ⟨F, as, env, cs, ok, sl, h⟩
  refine ⟨⟨z, rfl⟩, F, as, env, cs, ok, sl, out_imp (out_bnd h) fun f cs2 F2 H2 as2 g2 ok2 h2 u hu => ?_⟩
  unfold opJoin at h2
  split at h2
  · rename_i ys q
    split at h2
    · rename_i q2
      obtain ⟨xs, e1, e2⟩ := Option.bind_eq_some_iff.mp q
      obtain ⟨p, zs, rfl, h3, l⟩ := seq_at ok2 hu e1
      rw [strsOf_eq l e2] at h3
      exact ⟨z, p, ys, rfl, rfl, .inl h3, Nat.le_trans (of_decide_eq_true q2) (by decide), end_ok ok2 (.str _) h2⟩
    · exact False.elim h2
  · exact False.elim h2)
/-! ### isinstance -/
inductive Ty where
  | int | bool | str | tuple | list
def Ty.nm : Ty → String
  | .int => "int"
  | .bool => "bool"
  | .str => "str"
  | .tuple => "tuple"
  | .list => "list"
def isD : Ty → D → Bool
  | .int, .int _ => true
  | .int, .bl _ => true
  | .bool, .bl _ => true
  | .str, .str _ => true
  | .tuple, .tup _ => true
  | .list, .lst _ => true
  | .list, .ref _ => true
  | .list, .scr _ => true
  | _, _ => false
def tyN : D → String
  | .non => "NoneType"
  | .bl _ => "bool"
  | .int _ => "int"
  | .str _ => "str"
  | .tup _ => "tuple"
  | .dic => "dict"
  | _ => "list"
theorem kit_non : ∀ T : Ty, kitB (tyN .non) T.nm = some (isD T .non)
  | .int => by decide +kernel
  | .bool => by decide +kernel
  | .str => by decide +kernel
  | .tuple => by decide +kernel
  | .list => by decide +kernel
theorem kit_bl : ∀ T : Ty, kitB (tyN (.bl true)) T.nm = some (isD T (.bl true))
  | .int => by decide +kernel
  | .bool => by decide +kernel
  | .str => by decide +kernel
  | .tuple => by decide +kernel
  | .list => by decide +kernel
theorem kit_int : ∀ T : Ty, kitB (tyN (.int 0)) T.nm = some (isD T (.int 0))
  | .int => by decide +kernel
  | .bool => by decide +kernel
  | .str => by decide +kernel
  | .tuple => by decide +kernel
  | .list => by decide +kernel
theorem kit_str : ∀ T : Ty, kitB (tyN (.str Str.empty)) T.nm = some (isD T (.str Str.empty))
  | .int => by decide +kernel
  | .bool => by decide +kernel
  | .str => by decide +kernel
  | .tuple => by decide +kernel
  | .list => by decide +kernel
theorem kit_tup : ∀ T : Ty, kitB (tyN (.tup [])) T.nm = some (isD T (.tup []))
  | .int => by decide +kernel
  | .bool => by decide +kernel
  | .str => by decide +kernel
  | .tuple => by decide +kernel
  | .list => by decide +kernel
theorem kit_lst : ∀ T : Ty, kitB (tyN (.lst [])) T.nm = some (isD T (.lst []))
  | .int => by decide +kernel
  | .bool => by decide +kernel
  | .str => by decide +kernel
  | .tuple => by decide +kernel
  | .list => by decide +kernel
theorem kit_ref : ∀ T : Ty, kitB (tyN (.ref 0)) T.nm = some (isD T (.ref 0))
  | .int => by decide +kernel
  | .bool => by decide +kernel
  | .str => by decide +kernel
  | .tuple => by decide +kernel
  | .list => by decide +kernel
theorem kit_dic : ∀ T : Ty, kitB (tyN .dic) T.nm = some (isD T .dic)
  | .int => by decide +kernel
  | .bool => by decide +kernel
  | .str => by decide +kernel
  | .tuple => by decide +kernel
  | .list => by decide +kernel
theorem kit_scr : ∀ T : Ty, kitB (tyN (.scr [])) T.nm = some (isD T (.scr []))
  | .int => by decide +kernel
  | .bool => by decide +kernel
  | .str => by decide +kernel
  | .tuple => by decide +kernel
  | .list => by decide +kernel
theorem kit_isD (T : Ty) (d : D) : kitB (tyN d) T.nm = some (isD T d) := by
  cases d with
  | non => exact (kit_non T).trans (by cases T <;> rfl)
  | bl _ => exact (kit_bl T).trans (by cases T <;> rfl)
  | int _ => exact (kit_int T).trans (by cases T <;> rfl)
  | str _ => exact (kit_str T).trans (by cases T <;> rfl)
  | tup _ => exact (kit_tup T).trans (by cases T <;> rfl)
  | lst _ => exact (kit_lst T).trans (by cases T <;> rfl)
  | ref _ => exact (kit_ref T).trans (by cases T <;> rfl)
  | dic => exact (kit_dic T).trans (by cases T <;> rfl)
  | scr _ => exact (kit_scr T).trans (by cases T <;> rfl)
theorem tyX_of {K : PySem.W.Frag} {F H : Hp} {as : List Addr} {cs : Cs} {v : V} {d : D} (ok : Ok K F H as cs) (h : Dv K F as v d) : TyX K H v (.type (tyN d)) := by
  cases h with
  | non => exact .base .non
  | bl b => exact .base (.bl b)
  | int i => exact .base (.int i)
  | str x => exact .base (.str x)
  | tup h _ => exact .base (.tup (ok.fh _ _ h))
  | lst h _ => exact .base (.lst (ok.fh _ _ h))
  | ref h =>
    obtain ⟨_, ys, h2⟩ := ok.old (List.mem_of_getElem? h)
    exact .base (.lst h2)
  | dic h => exact .base (.dK (ok.fh _ _ h))
  | scr h =>
    rcases ext_l ok.fh h with (h | ⟨o, h⟩) | ⟨o, its, n, h1, h2, _⟩
    · exact .base (.lst h)
    · exact .base (.frz h)
    · exact .kList h1 h2
def opIs (T : Ty) : D → M D := fun d => M.ret (.bl (isD T d))
theorem ge_isi {T : Ty} {x : Str} {p p2 : Pos} (hg : Gl X "isinstance") (hm : X.mg "isinstance" = none) (hg2 : Gl X x) (hm2 : X.mg x = none) (hv2 : bootBuiltins x = some (.type T.nm)) (he : PE X e (tD X.K ct W me)) (hn : x ≠ "__name__" := by decide) (hdb : (x == ("__debug__" : Str)) = false := by decide)
    (hs : starEach [e, .Name x p2] X.env = (false, eval e X.env) :: starEach [.Name x p2] X.env := by rfl) (hs2 : starEach [.Name x p2] X.env = (false, eval (.Name x p2) X.env) :: starEach [] X.env := by rfl) (hpl : (backTo pos (starEach [.Name x p2] X.env)).any (·.1) = false := by rfl) :
    PE X (.Call (.Name "isinstance" p) [e, .Name x p2] [] pos) (tD X.K ct W (xUn (opIs T) me)) := PE.imp (pe_callB call_isi hg hm (by decide +kernel) (pa_cons he (pa_cons (pe_bltn (v := .ty T.nm) hg2 hm2 hv2 rfl hn hdb) pa_nil hs2) hs) (by decide) (by decide) hs hpl) (by
  rintro σ H Q ⟨F, as, env, cs, ok, sl, h⟩
  refine ⟨F, as, env, cs, ok, sl, out_imp (out_bnd h) fun d cs1 F1 H1 as1 g ok1 h1 v hv => ?_⟩
  exact ⟨v, .ty T.nm, .type (tyN d), .type T.nm, isD T d, rfl, .ty _, tyX_of ok1 hv, kit_ty (kit_isD T d), end_ok ok1 (.bl _) h1⟩)
/-! ### slices -/
def cutD (xs : List D) (lo hi : Option Int) : List D := (xs.drop (HT.sIx xs.length 0 lo)).take (HT.sIx xs.length xs.length hi - HT.sIx xs.length 0 lo)
theorem DvL.cut {K : PySem.W.Frag} {F : Hp} {as : List Addr} {vs : List V} {ds : List D} (h : DvL K F as vs ds) (lo hi : Option Int) : DvL K F as (cutV vs lo hi) (cutD ds lo hi) := by
  unfold cutV cutD
  rw [h.length]
  exact (h.drop _).take _
/-- a slice's part -/
def pNo : En → M (Option Int) := fun _ => M.ret none
def pSome (a : En → M D) : En → M (Option Int) := fun env => M.bnd (a env) fun d => match d with
  | .int i => M.ret (some i)
  | _ => M.no
def tO (K : PySem.W.Frag) (ct : Ct) (W : WX) (m : En → M (Option Int)) : TO := fun σ H Q => ∃ F as env cs, Ok K F H as cs ∧ Sl K F as σ env ∧ out K ct W σ.length F H as (m env cs) fun o _ _ H' _ => Q o H'
theorem PO.imp {o : Option Expr} {t t' : TO} (h : PO X o t) (k : ∀ σ H Q, t' σ H Q → t σ H Q) : PO X o t' := ⟨fun pins s σ H Q I w => h.run pins s σ H Q I (k σ H Q w)⟩
theorem go_no : PO X none (tO X.K ct W pNo) := PO.imp po_none (by
  rintro σ H Q ⟨F, as, env, cs, ok, sl, h⟩
  exact out_ok ok h)
theorem go_some (h : PE X e (tD X.K ct W me)) : PO X (some e) (tO X.K ct W (pSome me)) := PO.imp (po_some h) (by
  rintro σ H Q ⟨F, as, env, cs, ok, sl, h⟩
  refine ⟨F, as, env, cs, ok, sl, out_imp (out_bnd h) fun d cs1 F1 H1 as1 g ok1 h1 v hv => ?_⟩
  split at h1
  · cases hv
    exact ⟨_, rfl, out_ok ok1 h1⟩
  · exact False.elim h1)
def xSl (c : Bool) (a : En → M D) (lo hi : En → M (Option Int)) : En → M D := fun env => M.bnd (a env) fun d => M.bnd (lo env) fun l => M.bnd (hi env) fun u => fun cs => match seqOf cs d with
  | some xs => mkL c (cutD xs l u) cs
  | none => .no
theorem ge_sl (c : Bool) {lo hi : Option Expr} {ml mh : En → M (Option Int)} {p2 : Pos} (he : PE X e (tD X.K ct W me)) (hl : PO X lo (tO X.K ct W ml)) (hh : PO X hi (tO X.K ct W mh)) : PE X (.Subscript e (.Slice lo hi none p2) pos) (tD X.K ct W (xSl c me ml mh)) := PE.imp (pe_slice sl_list he hl hh) (by
  rintro σ H Q ⟨F, as, env, cs, ok, sl, h⟩
  refine ⟨F, as, env, cs, ok, sl, out_imp (out_bnd h) fun d cs1 F1 H1 as1 g1 ok1 h1 v hv => ?_⟩
  refine ⟨F1, as1, env, cs1, ok1, sl.gro g1, out_imp (out_bnd h1) fun l cs2 F2 H2 as2 g2 ok2 h2 => ?_⟩
  refine ⟨F2, as2, env, cs2, ok2, (sl.gro g1).gro g2, out_imp (out_bnd h2) fun u cs3 F3 H3 as3 g3 ok3 h3 => ?_⟩
  try dsimp only at h3
  split at h3
  · rename_i xs q
    obtain ⟨a, ys, rfl, h4, lk⟩ := seq_at ok3 ((hv.gro g2).gro g3) q
    exact ⟨a, ys, rfl, h4, new_mk ok3 (lk.cut l u) h3⟩
  · exact False.elim h3)
/-- xs[::-1] -/
def opRev (c : Bool) : D → M D := fun d cs => match seqOf cs d with
  | some xs => mkL c xs.reverse cs
  | none => .no
theorem ge_rev (c : Bool) {k : Nat} {p1 p2 p3 : Pos} (he : PE X e (tD X.K ct W me)) : PE X (.Subscript e (.Slice none none (some (.UnaryOp .USub (.Constant (.int 1) k p1) p2)) p3) pos) (tD X.K ct W (xUn (opRev c) me)) := PE.imp (pe_revL he) (by
  rintro σ H Q ⟨F, as, env, cs, ok, sl, h⟩
  refine ⟨F, as, env, cs, ok, sl, out_imp (out_bnd h) fun d cs1 F1 H1 as1 g1 ok1 h1 v hv => ?_⟩
  unfold opRev at h1
  split at h1
  · rename_i xs q
    obtain ⟨a, ys, rfl, h4, lk⟩ := seq_at ok1 hv q
    exact ⟨a, ys, rfl, h4, new_mk ok1 lk.rev h1⟩
  · exact False.elim h1)
/-! ### list(range(..)), tuple(range(..)) -/
def rngD (a : Int) (n : Nat) : List D := (List.range n).map fun i => .int (a + (i : Nat))
theorem rng_dv {K : PySem.W.Frag} {F : Hp} {as : List Addr} (a b : Int) : DvL K F as (rgV a b) (rngD a (b - a).toNat) := by
  unfold rgV rngD
  generalize List.range (b - a).toNat = l
  induction l with
  | nil => exact .nil
  | cons i r ih => exact .cons (.int _) ih
def rgOk (a b : Int) : Bool := decide (-(2 ^ 62) ≤ a ∧ a < 2 ^ 62 ∧ -(2 ^ 62) ≤ b ∧ b < 2 ^ 62) && szOk (b - a).toNat
theorem rgOk_ok {a b : Int} (h : rgOk a b = true) : RgOk a b := by
  obtain ⟨h1, h2⟩ := Bool.and_eq_true_iff.mp h
  obtain ⟨h3, h4, h5, h6⟩ := of_decide_eq_true h1
  exact ⟨h3, h4, h5, h6, Nat.le_trans (of_decide_eq_true h2) (by decide)⟩
def opRg (tu c : Bool) : D → M D
  | .int b => if rgOk 0 b = true then (if tu = true then M.ret (.tup (rngD 0 (b - 0).toNat)) else mkL c (rngD 0 (b - 0).toNat)) else M.no
  | _ => M.no
theorem ge_listRg (c : Bool) {p p2 p3 : Pos} (hc : X.calm = true) (hg : Gl X "list") (hm : X.mg "list" = none) (hg2 : Gl X "range") (hm2 : X.mg "range" = none) (he : PE X e (tD X.K ct W me)) (na : starEach [e] X.env = (false, eval e X.env) :: starEach [] X.env := by rfl)
    (nb : starEach [.Call (.Name "range" p2) [e] [] p3] X.env = (false, eval (.Call (.Name "range" p2) [e] [] p3) X.env) :: starEach [] X.env := by rfl) : PE X (.Call (.Name "list" p) [.Call (.Name "range" p2) [e] [] p3] [] pos) (tD X.K ct W (xUn (opRg false c) me)) := PE.imp (pe_listRg hc hg hm (prg_1 hg2 hm2 he na) nb) (by
  rintro σ H Q ⟨F, as, env, cs, ok, sl, h⟩
  refine ⟨F, as, env, cs, ok, sl, out_imp (out_bnd h) fun d cs1 F1 H1 as1 g1 ok1 h1 v hv => ?_⟩
  unfold opRg at h1
  split at h1
  · split at h1
    · rename_i b q
      cases hv
      exact ⟨b, rfl, rgOk_ok q, new_mk ok1 (rng_dv 0 b) h1⟩
    · exact False.elim h1
  · exact False.elim h1)
theorem ge_tupRg {p p2 p3 : Pos} (hc : X.calm = true) (hg : Gl X "tuple") (hm : X.mg "tuple" = none) (hg2 : Gl X "range") (hm2 : X.mg "range" = none) (he : PE X e (tD X.K ct W me)) (na : starEach [e] X.env = (false, eval e X.env) :: starEach [] X.env := by rfl)
    (nb : starEach [.Call (.Name "range" p2) [e] [] p3] X.env = (false, eval (.Call (.Name "range" p2) [e] [] p3) X.env) :: starEach [] X.env := by rfl) : PE X (.Call (.Name "tuple" p) [.Call (.Name "range" p2) [e] [] p3] [] pos) (tD X.K ct W (xUn (opRg true false) me)) := PE.imp (pe_tupRg hc hg hm (prg_1 hg2 hm2 he na) nb) (by
  rintro σ H Q ⟨F, as, env, cs, ok, sl, h⟩
  refine ⟨F, as, env, cs, ok, sl, out_imp (out_bnd h) fun d cs1 F1 H1 as1 g1 ok1 h1 v hv => ?_⟩
  unfold opRg at h1
  split at h1
  · split at h1
    · rename_i b q
      cases hv
      exact ⟨b, rfl, rgOk_ok q, new_tup ok1 (rng_dv 0 b) h1⟩
    · exact False.elim h1
  · exact False.elim h1)
end
end G
/-! G3: what is walked, comprehensions, statements. -/
namespace G
open L2 PySem PySem.Spec PyProof.Rows
/-! ### targets -/
inductive Tg where
  | nm (j : Nat) | tp (js : List Nat)
def setAll : List Nat → List D → En → Option En
  | [], [], env => some env
  | j :: js, d :: ds, env => setAll js ds (env.set j (some d))
  | _, _, _ => none
def tgS : Tg → D → En → Option En
  | .nm j, d, env => some (env.set j (some d))
  | .tp js, .tup ds, env => setAll js ds env
  | _, _, _ => none
def gNs : List Nat → TGs
  | [] => gNil
  | j :: js => gCons (gName j) (gNs js)
def tgR (K : PySem.W.Frag) : Tg → TG
  | .nm j => gName j
  | .tp js => gTup K js.length (gNs js)
def Tg.slots : Tg → List Nat
  | .nm j => [j]
  | .tp js => js
section
variable {K : PySem.W.Frag} {F H : Hp} {as : List Addr} {cs : Cs}
theorem wipe_get {σ : L2.St} : ∀ {vs : List Nat} (i : Nat), (wipe σ vs)[i]? = if i ∈ vs ∧ i < σ.length then some none else σ[i]?
  | [], i => by
    rw [if_neg (by simp)]
    rfl
  | v :: vs, i => by
    show ((wipe σ vs).set v none)[i]? = _
    by_cases e : v = i
    · subst e
      by_cases hl : v < σ.length
      · rw [List.getElem?_set_self (by rw [wipe_length]; exact hl), if_pos ⟨List.mem_cons_self, hl⟩]
      · rw [List.getElem?_eq_none (by rw [List.length_set, wipe_length]; exact Nat.le_of_not_lt hl), if_neg (fun z => hl z.2), List.getElem?_eq_none (Nat.le_of_not_lt hl)]
    · rw [List.getElem?_set_ne e, wipe_get i]
      have : (i ∈ v :: vs ∧ i < σ.length) ↔ (i ∈ vs ∧ i < σ.length) := by
        rw [List.mem_cons]
        constructor
        · rintro ⟨h | h, h2⟩
          · exact absurd h.symm e
          · exact ⟨h, h2⟩
        · rintro ⟨h, h2⟩
          exact ⟨.inr h, h2⟩
      by_cases c : i ∈ vs ∧ i < σ.length
      · rw [if_pos c, if_pos (this.mpr c)]
      · rw [if_neg c, if_neg fun z => c (this.mp z)]
theorem wipe_set {σ : L2.St} {vs : List Nat} {j : Nat} (h : j ∈ vs) (x : Option V) : wipe (σ.set j x) vs = wipe σ vs := by
  apply List.ext_getElem?
  intro i
  rw [wipe_get, wipe_get, List.length_set]
  by_cases c : i ∈ vs ∧ i < σ.length
  · rw [if_pos c, if_pos c]
  · rw [if_neg c, if_neg c]
    by_cases e : j = i
    · subst e
      have hl : ¬ j < σ.length := fun z => c ⟨h, z⟩
      rw [List.getElem?_eq_none (by rw [List.length_set]; exact Nat.le_of_not_lt hl), List.getElem?_eq_none (Nat.le_of_not_lt hl)]
    · rw [List.getElem?_set_ne e]
theorem setAll_ok : ∀ {js : List Nat} {ds : List D} {vs : List V} {σ : L2.St} {env env' : En}, DvL K F as vs ds → Sl K F as σ env → setAll js ds env = some env' →
    ∃ σ', Sl K F as σ' env' ∧ σ'.length = σ.length ∧ (∀ ws, (∀ j ∈ js, j ∈ ws) → wipe σ' ws = wipe σ ws) ∧ ∀ (H : Hp) (Q : L2.St → Hp → Prop), Q σ' H → gNs js vs σ H Q
  | [], [], _, σ, env, env', h, sl, e => by
    cases h
    cases e
    exact ⟨σ, sl, rfl, fun _ _ => rfl, fun _ _ q => ⟨rfl, q⟩⟩
  | j :: js, d :: ds, _, σ, env, env', h, sl, e => by
    cases h with
    | cons h1 h2 =>
      obtain ⟨σ', s1, l1, w1, q1⟩ := setAll_ok h2 (sl.set h1 j) e
      refine ⟨σ', s1, by rw [l1, List.length_set], fun ws hw => ?_, fun H Q q => ⟨_, _, rfl, q1 H Q q⟩⟩
      rw [w1 ws fun k hk => hw k (List.mem_cons_of_mem _ hk), wipe_set (hw j List.mem_cons_self)]
  | [], _ :: _, _, _, _, _, _, _, e => by cases e
  | _ :: _, [], _, _, _, _, _, _, e => by cases e
theorem setAll_len : ∀ {js : List Nat} {ds : List D} {env env' : En}, setAll js ds env = some env' → js.length = ds.length
  | [], [], _, _, _ => rfl
  | _ :: js, _ :: ds, _, _, e => congrArg (· + 1) (setAll_len (js := js) (ds := ds) e)
  | [], _ :: _, _, _, e => by cases e
  | _ :: _, [], _, _, e => by cases e
theorem tg_ok {t : Tg} {d : D} {v : V} {σ : L2.St} {env env' : En} (ok : Ok K F H as cs) (h : Dv K F as v d) (sl : Sl K F as σ env) (e : tgS t d env = some env') :
    ∃ σ', Sl K F as σ' env' ∧ σ'.length = σ.length ∧ (∀ ws, (∀ j ∈ t.slots, j ∈ ws) → wipe σ' ws = wipe σ ws) ∧ ∀ (Q : L2.St → Hp → Prop), Q σ' H → tgR K t v σ H Q := by
  cases t with
  | nm j =>
    cases e
    exact ⟨_, sl.set h j, List.length_set, fun ws hw => wipe_set (hw j List.mem_cons_self) _, fun Q q => q⟩
  | tp js =>
    cases d with
    | tup ds =>
      cases h with
      | tup t l =>
        obtain ⟨σ', s1, l1, w1, q1⟩ := setAll_ok l sl e
        exact ⟨σ', s1, l1, w1, fun Q q => ⟨_, _, rfl, SqT.of (ok.fh _ _ t), by rw [l.length, setAll_len e], q1 H Q q⟩⟩
    | _ => cases e
end
/-! ### what is walked -/
structure It0 where
  items : List D
  live : Cs → Bool
mutual
def eqD : D → D → Bool
  | .non, .non => true
  | .bl a, .bl b => a == b
  | .int i, .int j => i == j
  | .str x, .str y => x == y
  | .tup xs, .tup ys => eqDL xs ys
  | .lst xs, .lst ys => eqDL xs ys
  | .ref i, .ref j => i == j
  | .dic, .dic => true
  | .scr a, .scr b => a == b
  | _, _ => false
def eqDL : List D → List D → Bool
  | [], [] => true
  | x :: xs, y :: ys => eqD x y && eqDL xs ys
  | _, _ => false
end
mutual
theorem eqD_eq : ∀ {d e : D}, eqD d e = true → d = e
  | .non, .non, _ => rfl
  | .bl a, .bl b, h => congrArg D.bl (eq_of_beq (show (a == b) = true from h))
  | .int a, .int b, h => congrArg D.int (eq_of_beq (show (a == b) = true from h))
  | .str a, .str b, h => congrArg D.str (eq_of_beq (show (a == b) = true from h))
  | .tup a, .tup b, h => congrArg D.tup (eqDL_eq (show eqDL a b = true from h))
  | .lst a, .lst b, h => congrArg D.lst (eqDL_eq (show eqDL a b = true from h))
  | .ref a, .ref b, h => congrArg D.ref (eq_of_beq (show (a == b) = true from h))
  | .dic, .dic, _ => rfl
  | .scr a, .scr b, h => congrArg D.scr (eq_of_beq (show (a == b) = true from h))
  | .non, .bl _, h | .non, .int _, h | .non, .str _, h | .non, .tup _, h | .non, .lst _, h | .non, .ref _, h | .non, .dic, h | .non, .scr _, h => by cases h
  | .bl _, .non, h | .bl _, .int _, h | .bl _, .str _, h | .bl _, .tup _, h | .bl _, .lst _, h | .bl _, .ref _, h | .bl _, .dic, h | .bl _, .scr _, h => by cases h
  | .int _, .non, h | .int _, .bl _, h | .int _, .str _, h | .int _, .tup _, h | .int _, .lst _, h | .int _, .ref _, h | .int _, .dic, h | .int _, .scr _, h => by cases h
  | .str _, .non, h | .str _, .bl _, h | .str _, .int _, h | .str _, .tup _, h | .str _, .lst _, h | .str _, .ref _, h | .str _, .dic, h | .str _, .scr _, h => by cases h
  | .tup _, .non, h | .tup _, .bl _, h | .tup _, .int _, h | .tup _, .str _, h | .tup _, .lst _, h | .tup _, .ref _, h | .tup _, .dic, h | .tup _, .scr _, h => by cases h
  | .lst _, .non, h | .lst _, .bl _, h | .lst _, .int _, h | .lst _, .str _, h | .lst _, .tup _, h | .lst _, .ref _, h | .lst _, .dic, h | .lst _, .scr _, h => by cases h
  | .ref _, .non, h | .ref _, .bl _, h | .ref _, .int _, h | .ref _, .str _, h | .ref _, .tup _, h | .ref _, .lst _, h | .ref _, .dic, h | .ref _, .scr _, h => by cases h
  | .dic, .non, h | .dic, .bl _, h | .dic, .int _, h | .dic, .str _, h | .dic, .tup _, h | .dic, .lst _, h | .dic, .ref _, h | .dic, .scr _, h => by cases h
  | .scr _, .non, h | .scr _, .bl _, h | .scr _, .int _, h | .scr _, .str _, h | .scr _, .tup _, h | .scr _, .lst _, h | .scr _, .ref _, h | .scr _, .dic, h => by cases h
theorem eqDL_eq : ∀ {d e : List D}, eqDL d e = true → d = e
  | [], [], _ => rfl
  | x :: xs, y :: ys, h => by
    obtain ⟨h1, h2⟩ := Bool.and_eq_true_iff.mp (show (eqD x y && eqDL xs ys) = true from h)
    rw [eqD_eq h1, eqDL_eq h2]
  | [], _ :: _, h => by cases h
  | _ :: _, [], h => by cases h
end
/-- the list stands as it stood -/
def liveOf (xs : List D) : D → Cs → Bool
  | .ref i, cs' => (match cs'[i]? with
    | some ys => eqDL ys xs
    | none => false)
  | _, _ => true
theorem liveOf_ok {cs cs' : Cs} {d : D} {xs : List D} (e : seqOf cs d = some xs) (h : liveOf xs d cs' = true) : seqOf cs' d = some xs := by
  cases d with
  | ref i =>
    have h2 : (match cs'[i]? with
      | some ys => eqDL ys xs
      | none => false) = true := h
    cases q : cs'[i]? with
    | none =>
      rw [q] at h2
      cases h2
    | some ys =>
      rw [q] at h2
      show cs'[i]? = some xs
      rw [q, eqDL_eq h2]
  | _ => exact e
def ItOk (K : PySem.W.Frag) (F H : Hp) (as : List Addr) (J : It) (xs : List D) (live : Cs → Bool) : Prop :=
  ∀ F2 H2 as2 cs2, Gro F H as F2 H2 as2 → Ok K F2 H2 as2 cs2 → live cs2 = true →
    (∀ i d, xs[i]? = some d → J.go i H2 ∧ ∀ x H3, J.yld i H2 x H3 → ∃ F3, Gro F2 H2 as2 F3 H3 as2 ∧ Ok K F3 H3 as2 cs2 ∧ Dv K F3 as2 x d) ∧ J.stop xs.length H2
def tI (K : PySem.W.Frag) (ct : Ct) (W : WX) (m : En → M It0) : TI := fun σ H R => ∃ F as env cs, Ok K F H as cs ∧ Sl K F as σ env ∧ out K ct W σ.length F H as (m env cs) fun it _ F' H' as' => ∀ J, ItOk K F' H' as' J it.items it.live → R J H'
theorem PI.imp {X : Cx} {tg e : Expr} {t t' : TI} (h : PI X tg e t) (k : ∀ σ H R, t' σ H R → t σ H R) : PI X tg e t' := ⟨fun pins s σ H R I w => h.run pins s σ H R I (k σ H R w)⟩
def itSeq (m : En → M D) : En → M It0 := fun env => M.bnd (m env) fun d cs => match seqOf cs d with
  | some xs => .ok ⟨xs, liveOf xs d⟩ cs
  | none => .no
def itTup (m : En → M D) : En → M It0 := fun env => M.bnd (m env) fun d => match d with
  | .tup xs => M.ret ⟨xs, fun _ => true⟩
  | _ => M.no
def small62 (i : Int) : Bool := decide (-(2 ^ 62) ≤ i ∧ i < 2 ^ 62)
def rngC (a c : Int) (n : Nat) : List D := (List.range n).map fun i => .int (a + (i : Nat) * c)
def opR1 : D → M It0
  | .int j => if small62 j = true then M.ret ⟨rngD 0 j.toNat, fun _ => true⟩ else M.no
  | _ => M.no
def opR2 : D → D → M It0
  | .int i, .int j => if small62 i && small62 j then M.ret ⟨rngD i (j - i).toNat, fun _ => true⟩ else M.no
  | _, _ => M.no
def opR3 : D → D → D → M It0
  | .int i, .int j, .int c => if decide (c ≠ 0 ∧ c.natAbs < 1073741824 ∧ 0 ≤ Builtin.Range.rangeSize i j c) && Builtin.Range.small i j c then M.ret ⟨rngC i c (Builtin.Range.rangeSize i j c).toNat, fun _ => true⟩ else M.no
  | _, _, _ => M.no
def itR1 (a : En → M D) : En → M It0 := fun env => M.bnd (a env) opR1
def itR2 (a b : En → M D) : En → M It0 := fun env => M.bnd (a env) fun x => M.bnd (b env) fun y => opR2 x y
def itR3 (a b c : En → M D) : En → M It0 := fun env => M.bnd (a env) fun x => M.bnd (b env) fun y => M.bnd (c env) fun z => opR3 x y z
def itRev (m : En → M D) : En → M It0 := fun env => M.bnd (m env) fun d cs => match seqOf cs d with
  | some xs => .ok ⟨xs.reverse, liveOf xs d⟩ cs
  | none => .no
def itZip (a b : En → M D) : En → M It0 := fun env => M.bnd (a env) fun d => M.bnd (b env) fun e cs => match seqOf cs d, seqOf cs e with
  | some xs, some ys => .ok ⟨(xs.zip ys).map fun p => .tup [p.1, p.2], fun cs' => liveOf xs d cs' && liveOf ys e cs'⟩ cs
  | _, _ => .no
def itStr (m : En → M D) : En → M It0 := fun env => M.bnd (m env) fun d => match d with
  | .str z => M.ret ⟨z.cps.toList.map fun c => .str ⟨#[c]⟩, fun _ => true⟩
  | _ => M.no
section
variable {X : Cx} {ct : Ct} {W : WX} {tg e e2 e3 : Expr} {me m2 m3 : En → M D} {p pos : Pos}
theorem itOk_const {K : PySem.W.Frag} {F H : Hp} {as : List Addr} {J : It} {xs : List D} {live : Cs → Bool} (g : ∀ i d, xs[i]? = some d → ∀ H, J.go i H) (y : ∀ i d, xs[i]? = some d → ∀ H x H3, J.yld i H x H3 → H3 = H ∧ ∀ F as, Dv K F as x d) (s : ∀ H, J.stop xs.length H) : ItOk K F H as J xs live := fun F2 H2 as2 cs2 _ ok2 _ =>
  ⟨fun i d hd => ⟨g i d hd H2, fun x H3 hy => by
    obtain ⟨e, dv⟩ := y i d hd H2 x H3 hy
    subst e
    exact ⟨F2, Gro.refl _ _ _, ok2, dv F2 as2⟩⟩, s H2⟩
theorem rngD_get {a : Int} {n i : Nat} {d : D} (h : (rngD a n)[i]? = some d) : i < n ∧ d = .int (a + (i : Nat)) := by
  unfold rngD at h
  rw [List.getElem?_map] at h
  by_cases hi : i < n
  · rw [List.getElem?_range hi] at h
    exact ⟨hi, (Option.some.inj h).symm⟩
  · rw [List.getElem?_eq_none (by rw [List.length_range]; omega)] at h
    cases h
theorem rngC_get {a c : Int} {n i : Nat} {d : D} (h : (rngC a c n)[i]? = some d) : i < n ∧ d = .int (a + (i : Nat) * c) := by
  unfold rngC at h
  rw [List.getElem?_map] at h
  by_cases hi : i < n
  · rw [List.getElem?_range hi] at h
    exact ⟨hi, (Option.some.inj h).symm⟩
  · rw [List.getElem?_eq_none (by rw [List.length_range]; omega)] at h
    cases h
theorem itOk_rng {K : PySem.W.Frag} {F H : Hp} {as : List Addr} {a : Int} {n : Nat} {live : Cs → Bool} : ItOk K F H as (Itr a n) (rngD a n) live := itOk_const (fun i d h _ => (rngD_get h).1) (fun i d h H x H3 y => by
  obtain ⟨e, ex⟩ := y
  obtain ⟨_, ed⟩ := rngD_get h
  subst ed ex
  exact ⟨e, fun _ _ => .int _⟩) fun _ => by
    show n ≤ (rngD a n).length
    unfold rngD
    rw [List.length_map, List.length_range]
    exact Nat.le_refl n
theorem itOk_rngC {K : PySem.W.Frag} {F H : Hp} {as : List Addr} {a c : Int} {n : Nat} {live : Cs → Bool} : ItOk K F H as (Itc a c n) (rngC a c n) live := itOk_const (fun i d h _ => (rngC_get h).1) (fun i d h H x H3 y => by
  obtain ⟨e, ex⟩ := y
  obtain ⟨_, ed⟩ := rngC_get h
  subst ed ex
  exact ⟨e, fun _ _ => .int _⟩) fun _ => by
    show n ≤ (rngC a c n).length
    unfold rngC
    rw [List.length_map, List.length_range]
    exact Nat.le_refl n
theorem gi_r1 (hg : Gl X "range") (hm : X.mg "range" = none) (ha : PE X e (tD X.K ct W me)) (hs : starEach [e] X.env = [(false, eval e X.env)] := by rfl) (hs1 : starEach [e] X.env = (false, eval e X.env) :: starEach [] X.env := by rfl) : PI X tg (.Call (.Name "range" p) [e] [] pos) (tI X.K ct W (itR1 me)) := PI.imp (pi_range1 hg hm (pa_cons ha pa_nil hs1) hs) (by
  rintro σ H R ⟨F, as, env, cs, ok, sl, h⟩
  refine ⟨F, as, env, cs, ok, sl, out_imp (out_bnd h) fun d cs1 F1 H1 as1 g ok1 h1 v hv => ?_⟩
  unfold opR1 at h1
  split at h1
  · split at h1
    · rename_i j q
      cases hv
      obtain ⟨q1, q2⟩ := of_decide_eq_true q
      exact ⟨j, rfl, q1, q2, out_ok ok1 h1 _ itOk_rng⟩
    · exact False.elim h1
  · exact False.elim h1)
theorem gi_r2 (hg : Gl X "range") (hm : X.mg "range" = none) (ha : PE X e (tD X.K ct W me)) (hb : PE X e2 (tD X.K ct W m2)) (hs : starEach [e, e2] X.env = [(false, eval e X.env), (false, eval e2 X.env)] := by rfl) (hs2 : starEach [e2] X.env = [(false, eval e2 X.env)] := by rfl)
    (hs1 : starEach [e, e2] X.env = (false, eval e X.env) :: starEach [e2] X.env := by rfl) (hs3 : starEach [e2] X.env = (false, eval e2 X.env) :: starEach [] X.env := by rfl) : PI X tg (.Call (.Name "range" p) [e, e2] [] pos) (tI X.K ct W (itR2 me m2)) := PI.imp (pi_range2 hg hm (pa_cons ha (pa_cons hb pa_nil hs3) hs1) hs hs2) (by
  rintro σ H R ⟨F, as, env, cs, ok, sl, h⟩
  refine ⟨F, as, env, cs, ok, sl, out_imp (out_bnd h) fun d cs1 F1 H1 as1 g ok1 h1 v hv => ?_⟩
  refine ⟨F1, as1, env, cs1, ok1, sl.gro g, out_imp (out_bnd h1) fun d2 cs2 F2 H2 as2 g2 ok2 h2 u hu => ?_⟩
  unfold opR2 at h2
  split at h2
  · split at h2
    · rename_i i j q
      cases hv
      cases hu
      obtain ⟨q1, q2⟩ := Bool.and_eq_true_iff.mp q
      obtain ⟨q3, q4⟩ := of_decide_eq_true q1
      obtain ⟨q5, q6⟩ := of_decide_eq_true q2
      exact ⟨i, j, rfl, ⟨q3, q4, q5, q6⟩, out_ok ok2 h2 _ itOk_rng⟩
    · exact False.elim h2
  · exact False.elim h2)
theorem gi_r3 (hg : Gl X "range") (hm : X.mg "range" = none) (ha : PE X e (tD X.K ct W me)) (hb : PE X e2 (tD X.K ct W m2)) (hc : PE X e3 (tD X.K ct W m3)) (hs : starEach [e, e2, e3] X.env = (false, eval e X.env) :: starEach [e2, e3] X.env := by rfl) (hpl : (backTo pos (starEach [e2, e3] X.env)).any (·.1) = false := by rfl)
    (hs2 : starEach [e2, e3] X.env = (false, eval e2 X.env) :: starEach [e3] X.env := by rfl) (hs3 : starEach [e3] X.env = (false, eval e3 X.env) :: starEach [] X.env := by rfl) : PI X tg (.Call (.Name "range" p) [e, e2, e3] [] pos) (tI X.K ct W (itR3 me m2 m3)) := PI.imp (pi_range3 hg hm (pa_cons ha (pa_cons hb (pa_cons hc pa_nil hs3) hs2) hs) hs hpl) (by
  rintro σ H R ⟨F, as, env, cs, ok, sl, h⟩
  refine ⟨F, as, env, cs, ok, sl, out_imp (out_bnd h) fun d cs1 F1 H1 as1 g ok1 h1 v hv => ?_⟩
  refine ⟨F1, as1, env, cs1, ok1, sl.gro g, out_imp (out_bnd h1) fun d2 cs2 F2 H2 as2 g2 ok2 h2 u hu => ?_⟩
  refine ⟨F2, as2, env, cs2, ok2, (sl.gro g).gro g2, out_imp (out_bnd h2) fun d3 cs3 F3 H3 as3 g3 ok3 h3 w hw => ?_⟩
  unfold opR3 at h3
  split at h3
  · split at h3
    · rename_i i j c q
      cases hv
      cases hu
      cases hw
      obtain ⟨q1, q2⟩ := Bool.and_eq_true_iff.mp q
      obtain ⟨q3, q4, q5⟩ := of_decide_eq_true q1
      exact ⟨i, j, c, _, rfl, ⟨q3, q4, q2, by omega⟩, out_ok ok3 h3 _ itOk_rngC⟩
    · exact False.elim h3
  · exact False.elim h3)
theorem gi_seq (ha : PE X e (tD X.K ct W me)) : PI X tg e (tI X.K ct W (itSeq me)) := PI.imp (pi_list ha) (by
  rintro σ H R ⟨F, as, env, cs, ok, sl, h⟩
  refine ⟨F, as, env, cs, ok, sl, out_imp (out_bnd h) fun d cs1 F1 H1 as1 g ok1 h1 v hv => ?_⟩
  try dsimp only at h1
  split at h1
  · rename_i xs q
    obtain ⟨a, ys, rfl, h2, l⟩ := seq_at ok1 hv q
    refine ⟨a, rfl, ⟨ys, h2⟩, out_ok ok1 h1 _ fun F2 H2 as2 cs2 g2 ok2 lv => ?_⟩
    obtain ⟨b, zs, eb, h3, l3⟩ := seq_at ok2 (hv.gro g2) (liveOf_ok q lv)
    have ea : a = b := V.ref.inj eb
    subst ea
    refine ⟨fun i d hd => ?_, ⟨zs, h3, by rw [l3.length]; exact Nat.le_refl _⟩⟩
    obtain ⟨z, hz, dz⟩ := l3.get hd
    refine ⟨⟨zs, z, h3, hz⟩, fun x H3 hy => ?_⟩
    obtain ⟨e3, hy⟩ := hy
    subst e3
    have ex : z = x := Option.some.inj (hz.symm.trans (hy zs h3))
    subst ex
    exact ⟨F2, Gro.refl _ _ _, ok2, dz⟩
  · exact False.elim h1)
theorem gi_tup (ha : PE X e (tD X.K ct W me)) : PI X tg e (tI X.K ct W (itTup me)) := PI.imp (pi_tup ha) (by
  rintro σ H R ⟨F, as, env, cs, ok, sl, h⟩
  refine ⟨F, as, env, cs, ok, sl, out_imp (out_bnd h) fun d cs1 F1 H1 as1 g ok1 h1 v hv => ?_⟩
  split at h1
  · rename_i xs
    cases hv with
    | tup t l =>
      refine ⟨_, rfl, ⟨_, SqT.of (ok1.fh _ _ t)⟩, out_ok ok1 h1 _ fun F2 H2 as2 cs2 g2 ok2 lv => ?_⟩
      have h3 := SqT.of (K := X.K) (ok2.fh _ _ (g2.ff _ _ t))
      refine ⟨fun i d hd => ?_, ⟨_, h3, by rw [l.length]; exact Nat.le_refl _⟩⟩
      obtain ⟨z, hz, dz⟩ := (l.gro g2).get hd
      refine ⟨⟨_, z, h3, hz⟩, fun x H3 hy => ?_⟩
      obtain ⟨e3, hy⟩ := hy
      subst e3
      have ex : z = x := Option.some.inj (hz.symm.trans (hy _ h3))
      subst ex
      exact ⟨F2, Gro.refl _ _ _, ok2, dz⟩
  · exact False.elim h1)
theorem rev_get {α : Type} {xs : List α} {i : Nat} {d : α} (h : xs.reverse[i]? = some d) : i < xs.length ∧ xs[xs.length - 1 - i]? = some d := by
  have hi : i < xs.length := by
    have := (List.getElem?_eq_some_iff.mp h).1
    rwa [List.length_reverse] at this
  rw [List.getElem?_reverse hi] at h
  exact ⟨hi, h⟩
theorem gi_rev (hg : Gl X "reversed") (hm : X.mg "reversed" = none) (ha : PE X e (tD X.K ct W me)) (hs : starEach [e] X.env = [(false, eval e X.env)] := by rfl) (hs1 : starEach [e] X.env = (false, eval e X.env) :: starEach [] X.env := by rfl) : PI X tg (.Call (.Name "reversed" p) [e] [] pos) (tI X.K ct W (itRev me)) := PI.imp (pi_reversed hg hm (pa_cons ha pa_nil hs1) hs) (by
  rintro σ H R ⟨F, as, env, cs, ok, sl, h⟩
  refine ⟨F, as, env, cs, ok, sl, out_imp (out_bnd h) fun d cs1 F1 H1 as1 g ok1 h1 v hv => ?_⟩
  try dsimp only at h1
  split at h1
  · rename_i xs q
    obtain ⟨a, ys, rfl, h2, l⟩ := seq_at ok1 hv q
    refine ⟨a, ys, rfl, h2, out_ok ok1 h1 _ fun F2 H2 as2 cs2 g2 ok2 lv => ?_⟩
    obtain ⟨b, zs, eb, h3, l3⟩ := seq_at ok2 (hv.gro g2) (liveOf_ok q lv)
    have ea : a = b := V.ref.inj eb
    subst ea
    have hl := l.length
    refine ⟨fun i d hd => ?_, ?_⟩
    · obtain ⟨hi, hd⟩ := rev_get hd
      obtain ⟨z, hz, dz⟩ := l3.get hd
      have hz2 : zs[ys.length - 1 - i]? = some z := by rw [hl]; exact hz
      refine ⟨⟨by omega, zs, z, h3, hz2⟩, fun x H3 hy => ?_⟩
      obtain ⟨e3, hy⟩ := hy
      subst e3
      have ex : z = x := Option.some.inj (hz2.symm.trans (hy zs h3))
      subst ex
      exact ⟨F2, Gro.refl _ _ _, ok2, dz⟩
    · show ys.length ≤ xs.reverse.length
      rw [List.length_reverse, hl]
      exact Nat.le_refl _
  · exact False.elim h1)
theorem zip_get {α β : Type} : ∀ {xs : List α} {ys : List β} {i : Nat} {q : α × β}, (xs.zip ys)[i]? = some q → xs[i]? = some q.1 ∧ ys[i]? = some q.2
  | [], _, _, _, h => by simp at h
  | _ :: _, [], _, _, h => by simp at h
  | x :: xs, y :: ys, 0, q, h => by
    have e : (x, y) = q := Option.some.inj h
    subst e
    exact ⟨rfl, rfl⟩
  | x :: xs, y :: ys, i + 1, q, h => zip_get (xs := xs) (ys := ys) (i := i) (q := q) h
theorem gi_zip {elts : List Expr} {kk : Nat} {tpos : Pos} (hg : Gl X "zip") (hm : X.mg "zip" = none) (ha : PE X e (tD X.K ct W me)) (hb : PE X e2 (tD X.K ct W m2)) (hs : starEach [e, e2] X.env = (false, eval e X.env) :: starEach [e2] X.env := by rfl) (hpl : (backTo pos (starEach [e2] X.env)).any (·.1) = false := by rfl)
    (hs3 : starEach [e2] X.env = (false, eval e2 X.env) :: starEach [] X.env := by rfl) : PI X (.Tuple elts kk tpos) (.Call (.Name "zip" p) [e, e2] [] pos) (tI X.K ct W (itZip me m2)) := PI.imp (pi_zip hg hm (pa_cons ha (pa_cons hb pa_nil hs3) hs) hs hpl) (by
  rintro σ H R ⟨F, as, env, cs, ok, sl, h⟩
  refine ⟨F, as, env, cs, ok, sl, out_imp (out_bnd h) fun d cs1 F1 H1 as1 g ok1 h1 v hv => ?_⟩
  refine ⟨F1, as1, env, cs1, ok1, sl.gro g, out_imp (out_bnd h1) fun f cs2 F2 H2 as2 g2 ok2 h2 u hu => ?_⟩
  try dsimp only at h2
  split at h2
  · rename_i xs ys q1 q2
    obtain ⟨a, vs, rfl, h3, l3⟩ := seq_at ok2 (hv.gro g2) q1
    obtain ⟨b, us, rfl, h4, l4⟩ := seq_at ok2 hu q2
    refine ⟨a, b, vs, us, rfl, h3, h4, out_ok ok2 h2 _ fun F3 H3 as3 cs3 g3 ok3 lv => ?_⟩
    obtain ⟨lv1, lv2⟩ := Bool.and_eq_true_iff.mp lv
    obtain ⟨a', vs', ea, h5, l5⟩ := seq_at ok3 ((hv.gro g2).gro g3) (liveOf_ok q1 lv1)
    obtain ⟨b', us', eb, h6, l6⟩ := seq_at ok3 (hu.gro g3) (liveOf_ok q2 lv2)
    have ea : a = a' := V.ref.inj ea
    have eb : b = b' := V.ref.inj eb
    subst ea eb
    refine ⟨fun i d hd => ?_, ⟨vs', us', h5, h6, ?_⟩⟩
    · rw [List.getElem?_map] at hd
      cases q : (xs.zip ys)[i]? with
      | none =>
        rw [q] at hd
        cases hd
      | some pq =>
        rw [q] at hd
        have ed : D.tup [pq.1, pq.2] = d := Option.some.inj hd
        subst ed
        obtain ⟨z1, z2⟩ := zip_get q
        obtain ⟨w1, hw1, dw1⟩ := l5.get z1
        obtain ⟨w2, hw2, dw2⟩ := l6.get z2
        refine ⟨⟨vs', us', w1, w2, h5, h6, hw1, hw2⟩, fun x H4 hy => ?_⟩
        obtain ⟨T, x1, x2, rfl, hT, rfl, y1, y2⟩ := hy
        have e1 : w1 = x1 := Option.some.inj (hw1.symm.trans (y1 _ h5))
        have e2 : w2 = x2 := Option.some.inj (hw2.symm.trans (y2 _ h6))
        subst e1 e2
        exact ⟨_, gro_new _ ok3 hT, ok_new _ ok3 hT, .tup upd_same (.cons (dw1.mono (Ext.new (ok3.fnone hT)) List.prefix_rfl) (.cons (dw2.mono (Ext.new (ok3.fnone hT)) List.prefix_rfl) .nil))⟩
    · rw [List.length_map, List.length_zip, l5.length, l6.length]
      omega
  · exact False.elim h2)
theorem gi_str (ha : PE X e (tD X.K ct W me)) : PI X tg e (tI X.K ct W (itStr me)) := PI.imp (pi_str ha) (by
  rintro σ H R ⟨F, as, env, cs, ok, sl, h⟩
  refine ⟨F, as, env, cs, ok, sl, out_imp (out_bnd h) fun d cs1 F1 H1 as1 g ok1 h1 v hv => ?_⟩
  split at h1
  · rename_i z
    cases hv
    refine ⟨z, rfl, out_ok ok1 h1 _ (itOk_const (fun i d h _ => ?_) (fun i d h H x H3 y => ?_) fun _ => ?_)⟩
    · rw [List.getElem?_map] at h
      show i < z.cps.size
      by_cases hi : i < z.cps.size
      · exact hi
      · rw [List.getElem?_eq_none (by simpa using Nat.le_of_not_lt hi)] at h
        cases h
    · obtain ⟨e, c, hc, ex⟩ := y
      subst ex
      refine ⟨e, fun _ _ => ?_⟩
      rw [List.getElem?_map, Array.getElem?_toList, hc] at h
      have ed : D.str ⟨#[c]⟩ = d := Option.some.inj h
      subst ed
      exact .str _
    · show z.cps.size ≤ _
      simp
  · exact False.elim h1)
end
/-! ### comprehensions -/
def guardM (live : Cs → Bool) {α : Type} (m : M α) : M α := fun cs => if live cs = true then m cs else .no
def lcGo (live : Cs → Bool) (t : Tg) (tt : En → M Bool) (te : En → M D) (env : En) : List D → M (List D)
  | [] => guardM live (M.ret [])
  | x :: r => guardM live (match tgS t x env with
    | some env1 => M.bnd (tt env1) fun b => if b = true then M.bnd (te env1) fun y => M.bnd (lcGo live t tt te env r) fun ys => M.ret (y :: ys) else lcGo live t tt te env r
    | none => M.no)
def bYes : En → M Bool := fun _ => M.ret true
def xLc (c : Bool) (it : En → M It0) (own : List Nat) (t : Tg) (tt : En → M Bool) (te : En → M D) : En → M D := fun env => M.bnd (it env) fun i =>
  if szOk i.items.length = true then M.bnd (lcGo i.live t tt te (wip env own) i.items) fun ys => mkL c ys else M.no
theorem out_guard {α : Type} {K : PySem.W.Frag} {ct : Ct} {W : WX} {n : Nat} {F H : Hp} {as : List Addr} {live : Cs → Bool} {m : M α} {cs : Cs} {P : α → Cs → Hp → Hp → List Addr → Prop} (h : out K ct W n F H as (guardM live m cs) P) : live cs = true ∧ out K ct W n F H as (m cs) P := by
  unfold guardM at h
  by_cases q : live cs = true
  · rw [if_pos q] at h
    exact ⟨q, h⟩
  · rw [if_neg q] at h
    exact False.elim h
def W0 : WX := fun _ _ _ _ => False
/-- no exception is wished for where none comes -/
def calmM {α : Type} (r : Rs α) : Prop := ∀ x cs, r ≠ .ex x cs
theorem getElem_drop {α : Type} {xs r : List α} {i : Nat} {x : α} (h : xs.drop i = x :: r) : xs[i]? = some x ∧ xs.drop (i + 1) = r ∧ i < xs.length := by
  have hi : i < xs.length := by
    by_cases q : i < xs.length
    · exact q
    · rw [List.drop_eq_nil_of_le (Nat.le_of_not_lt q)] at h
      cases h
  rw [List.drop_eq_getElem_cons hi] at h
  obtain ⟨h1, h2⟩ := List.cons.inj h
  exact ⟨by rw [List.getElem?_eq_getElem hi, h1], h2, hi⟩
theorem drop_nil {α : Type} {xs : List α} {i : Nat} (h : xs.drop i = []) (hi : i ≤ xs.length) : i = xs.length := by
  have := congrArg List.length h
  rw [List.length_drop] at this
  simp at this
  omega
/-- exceptions turned to nothing -/
def noX {α : Type} (m : M α) : M α := fun cs => match m cs with
  | .ok a cs' => .ok a cs'
  | _ => .no
theorem out_noX {α : Type} {K : PySem.W.Frag} {ct : Ct} {W W' : WX} {n n' : Nat} {F H : Hp} {as : List Addr} {m : M α} {cs : Cs} {P : α → Cs → Hp → Hp → List Addr → Prop} (h : out K ct W n F H as (noX m cs) P) : out K ct W' n' F H as (m cs) P := by
  unfold noX at h
  cases q : m cs with
  | ok a cs' =>
    rw [q] at h
    exact h
  | ex x cs' =>
    rw [q] at h
    exact False.elim h
  | no =>
    rw [q] at h
    exact False.elim h
/-- one address left out -/
def rm (H : Hp) (A : Addr) : Hp := fun b => if b = A then none else H b
theorem rm_same {H : Hp} {A : Addr} : rm H A A = none := if_pos rfl
theorem upd_rm {H : Hp} {A : Addr} {o : HO} : upd (rm H A) A o = upd H A o := by
  funext b
  by_cases e : b = A
  · rw [e, upd_same, upd_same]
  · rw [upd_ne e, upd_ne e]
    exact if_neg e
theorem wipe_idem {σ : L2.St} {vs : List Nat} : wipe (wipe σ vs) vs = wipe σ vs := by
  apply List.ext_getElem?
  intro i
  rw [wipe_get, wipe_length]
  by_cases c : i ∈ vs ∧ i < σ.length
  · rw [if_pos c, wipe_get, if_pos c]
  · rw [if_neg c]
theorem rm_ne {H : Hp} {A b : Addr} (h : b ≠ A) : rm H A b = H b := if_neg h
section
variable {K : PySem.W.Frag} {ct : Ct} {F H F3 H3 : Hp} {as as3 : List Addr} {cs cs3 : Cs} {A : Addr} {o : HO}
theorem hide_gro (ok : Ok K F H as cs) (hA : H A = none) (g : Gro F (upd H A o) as F3 H3 as3) (ok3 : Ok K F3 H3 as3 cs3) : H3 = upd (rm H3 A) A o ∧ Gro F H as F3 (rm H3 A) as3 ∧ Ok K F3 (rm H3 A) as3 cs3 := by
  have nA : A ∉ as := ok.out hA
  have h3 : H3 A = some o := g.hh A o upd_same nA
  have nA3 : A ∉ as3 := fun m => (g.an A m).elim nA fun z => by
    rw [upd_same] at z
    cases z
  have fA : F3 A = none := by
    rw [g.fn A (by rw [upd_same]; exact fun z => nomatch z)]
    exact ok.fnone hA
  refine ⟨?_, ⟨g.ff, fun p hp => ?_, fun p u hp hn => ?_, fun p hp => ?_, g.ap, fun p m => ?_⟩, ⟨fun p u hp => ?_, ok3.nd, ok3.len, fun i a xs ha hx => ?_⟩⟩
  · funext b
    by_cases e : b = A
    · rw [e, upd_same, h3]
    · rw [upd_ne e, rm_ne e]
  · have ne : p ≠ A := fun e => hp (by rw [e]; exact hA)
    exact g.fn p (by rw [upd_ne ne]; exact hp)
  · have ne : p ≠ A := ne_of_none hp hA
    rw [rm_ne ne]
    exact g.hh p u (by rw [upd_ne ne]; exact hp) hn
  · have ne : p ≠ A := fun e => hp (by rw [e]; exact hA)
    rw [rm_ne ne]
    exact g.hl p (by rw [upd_ne ne]; exact hp)
  · rcases g.an p m with z | z
    · exact .inl z
    · by_cases e : p = A
      · rw [e, upd_same] at z
        cases z
      · rw [upd_ne e] at z
        exact .inr z
  · have ne : p ≠ A := ne_of_none hp fA
    rw [rm_ne ne]
    exact ok3.fh p u hp
  · obtain ⟨h1, ys, h2, h4⟩ := ok3.cell i a xs ha hx
    have ne : a ≠ A := fun e => nA3 (by rw [← e]; exact List.mem_of_getElem? ha)
    exact ⟨h1, ys, by rw [rm_ne ne]; exact h2, h4⟩
theorem xrel_rm {x : Exn} {c : Value} {d : Option Addr} {zs : List V} (h : XRel ct H x c d) (hA : H A = some (.lst zs)) : XRel ct (rm H A) x c d := by
  cases x with
  | net o =>
    obtain ⟨e, dd, fs, h1, h2, h3⟩ := h
    refine ⟨e, dd, fs, h1, ?_, h3⟩
    rw [rm_ne fun q => ?_]
    · exact h2
    · rw [q, hA] at h2
      cases h2
  | _ => exact h
theorem out_hide {α : Type} {n : Nat} {r : Rs α} {P : α → Cs → Hp → Hp → List Addr → Prop} {zs : List V} (ok : Ok K F H as cs) (hA : H A = none) (h : out K ct W0 n F H as r P) :
    out K ct W0 n F (upd H A (.lst zs)) as r fun a cs F3 H3 as3 => H3 = upd (rm H3 A) A (.lst zs) ∧ Gro F H as F3 (rm H3 A) as3 ∧ Ok K F3 (rm H3 A) as3 cs ∧ P a cs F3 (rm H3 A) as3 := by
  cases r with
  | ok a cs' =>
    intro F3 H3 as3 g ok3
    obtain ⟨e, g3, o3⟩ := hide_gro ok hA g ok3
    exact ⟨e, g3, o3, h _ _ _ g3 o3⟩
  | ex x cs' =>
    intro c d σ' F3 H3 as3 l g ok3 hx
    obtain ⟨e, g3, o3⟩ := hide_gro ok hA g ok3
    exact h c d σ' F3 (rm H3 A) as3 l g3 o3 (xrel_rm hx (by rw [e, upd_same]))
  | no => exact h
end
def xLcN (c : Bool) (it : En → M It0) (own : List Nat) (t : Tg) (tt : En → M Bool) (te : En → M D) : En → M D := fun env => M.bnd (it env) fun i =>
  if szOk i.items.length = true then M.bnd (noX (lcGo i.live t tt te (wip env own) i.items)) fun ys => mkL c ys else M.no
section
variable {K : PySem.W.Frag} {ct : Ct} {W : WX}
theorem lc_of {c : Bool} {it : En → M It0} {own : List Nat} {t : Tg} {tt : En → M Bool} {te : En → M D} (ht : ∀ j ∈ t.slots, j ∈ own) {σ : L2.St} {H : Hp} {Q : VK} (h : tD K ct W (xLcN c it own t tt te) σ H Q) :
    tLc (tI K ct W it) (tgR K t) (tT K ct W0 tt) (tD K ct W0 te) own σ H Q := by
  obtain ⟨F, as, env, cs, ok, sl, h⟩ := h
  refine ⟨F, as, env, cs, ok, sl, out_imp (out_bnd h) fun i cs1 F1 H1 as1 g1 ok1 h1 J hJ A hA => ?_⟩
  split at h1
  · rename_i hz
    have h2 := out_noX (W' := W0) (n' := σ.length) (out_bnd h1)
    have slw : Sl K F1 as1 (wipe σ own) (wip env own) := (sl.gro g1).wip own
    refine ⟨fun k m H' => m = i.items.length - k ∧ k ≤ i.items.length ∧ ∃ F2 H2 as2 cs2 ys ds, Gro F1 H1 as1 F2 H2 as2 ∧ Ok K F2 H2 as2 cs2 ∧ H2 A = none ∧ H' = upd H2 A (.lst ys) ∧ DvL K F2 as2 ys ds ∧ ys.length ≤ k ∧
        out K ct W0 σ.length F2 H2 as2 (lcGo i.live t tt te (wip env own) (i.items.drop k) cs2) fun zs cs3 F3 H3 as3 => out K ct W σ.length F3 H3 as3 (mkL c (ds ++ zs) cs3) (oD K Q),
      ⟨i.items.length, by simp, Nat.zero_le _, F1, H1, as1, cs1, [], [], Gro.refl _ _ _, ok1, hA, rfl, .nil, Nat.le_refl _, h2⟩, ?_⟩
    rintro k m H' ⟨rfl, hk, F2, H2, as2, cs2, ys, ds, g2, ok2, hA2, rfl, l2, hl, h3⟩
    cases q : i.items.drop k with
    | nil =>
      rw [q] at h3
      obtain ⟨lv, h3⟩ := out_guard h3
      have ek := drop_nil q hk
      have okA := ok_out (.lst ys) ok2 hA2
      have st := (hJ F2 (upd H2 A (.lst ys)) as2 cs2 (g2.trans (gro_out _ ok2 hA2)) okA lv).2
      refine .inl ⟨by rw [ek]; exact st, ?_⟩
      have h4 := out_ok ok2 h3
      rw [List.append_nil] at h4
      exact new_mk ok2 l2 h4 A hA2
    | cons x r =>
      rw [q] at h3
      obtain ⟨hx, hr, hlt⟩ := getElem_drop q
      obtain ⟨lv, h3⟩ := out_guard h3
      have okA := ok_out (.lst ys) ok2 hA2
      have gA := gro_out (.lst ys) ok2 hA2
      obtain ⟨go, yl⟩ := (hJ F2 _ as2 cs2 (g2.trans gA) okA lv).1 k x hx
      refine .inr ⟨go, fun H' => k + 1 ≤ i.items.length ∧ ∃ F2 H2 as2 cs2 ys ds, Gro F1 H1 as1 F2 H2 as2 ∧ Ok K F2 H2 as2 cs2 ∧ H2 A = none ∧ H' = upd H2 A (.lst ys) ∧ DvL K F2 as2 ys ds ∧ ys.length ≤ k + 1 ∧
        out K ct W0 σ.length F2 H2 as2 (lcGo i.live t tt te (wip env own) (i.items.drop (k + 1)) cs2) fun zs cs3 F3 H3 as3 => out K ct W σ.length F3 H3 as3 (mkL c (ds ++ zs) cs3) (oD K Q),
        fun H' hN => ⟨i.items.length - (k + 1), by omega, rfl, hN⟩, fun v H3 hy => ?_⟩
      obtain ⟨F3, g3, ok3, dv⟩ := yl v H3 hy
      obtain ⟨e3, g3', ok3'⟩ := hide_gro ok2 hA2 g3 ok3
      have slw3 : Sl K F3 as2 (wipe σ own) (wip env own) := (slw.gro g2).gro g3'
      cases q2 : tgS t x (wip env own) with
      | none =>
        rw [q2] at h3
        exact False.elim h3
      | some env1 =>
        rw [q2] at h3
        obtain ⟨σ2, sl2, len2, wp2, tq⟩ := tg_ok ok3 dv slw3 q2
        refine tq _ ⟨?_, ?_⟩
        · rw [wp2 own ht, wipe_idem]
        · have hl2 : σ2.length = σ.length := by rw [len2, wipe_length]
          refine ⟨F3, as2, env1, cs2, ok3, sl2, ?_⟩
          rw [e3, hl2]
          refine out_imp (out_hide ok3' rm_same (out_bnd (out_mono g3' h3))) fun b cs4 F4 H4 as4 _ ok4 h4 => ?_
          obtain ⟨e4, g4, ok4', h4⟩ := h4
          cases b with
          | true =>
            rw [if_pos rfl] at h4 ⊢
            refine ⟨F4, as4, env1, cs4, ok4, sl2.gro g4, ?_⟩
            rw [e4, hl2]
            refine out_imp (out_hide ok4' rm_same (out_bnd h4)) fun y cs5 F5 H5 as5 _ ok5 h5 w hw => ?_
            obtain ⟨e5, g5, ok5', h5⟩ := h5
            refine ⟨ys, by rw [e5, upd_same], Nat.lt_of_le_of_lt hl (Nat.lt_of_lt_of_le hlt (szOk_le hz)), by omega, F5, rm H5 A, as5, cs5, ys ++ [w], ds ++ [y], ((g2.trans g3').trans g4).trans g5, ok5', rm_same, ?_, ((((l2.gro g3').gro g4).gro g5)).append (.cons hw .nil), by rw [List.length_append]; exact Nat.succ_le_succ hl, ?_⟩
            · exact upd_rm.symm
            · rw [hr]
              refine out_imp (out_bnd h5) fun zs cs6 F6 H6 as6 _ ok6 h6 => ?_
              have h7 := out_ok ok6 h6
              rw [List.append_assoc]
              exact h7
          | false =>
            rw [if_neg Bool.false_ne_true] at h4 ⊢
            exact ⟨by omega, F4, rm H4 A, as4, cs4, ys, ds, (g2.trans g3').trans g4, ok4', rm_same, e4, (l2.gro g3').gro g4, Nat.le_succ_of_le hl, by rw [hr]; exact h4⟩
  · exact False.elim h1
end
end G
/-! G4: statements. -/
namespace G
open L2 PySem PySem.Spec PyProof.Rows
section
variable {X : Cx} {ct : Ct} {W : WX} {pos : Pos}
/-! ### comprehensions, as rules -/
theorem gts_nil : PTs X [] (tT X.K ct W bYes) := ⟨fun pins s σ H Q I h => pts_nil.run pins s σ H Q I (by
  obtain ⟨F, as, env, cs, ok, sl, h⟩ := h
  exact out_ok ok h)⟩
theorem gts_one {c : Expr} {b : En → M Bool} (h : PT X c (tT X.K ct W b)) : PTs X [c] (tT X.K ct W b) := pts_one h
theorem ge_lc (c : Bool) {elt tg iter : Expr} {ifs : List Expr} {scope : Scope} {own : List (Str × Nat)} {it : En → M It0} {t : Tg} {tt : En → M Bool} {te : En → M D} (hc : X.calm = true) (hN : X.N.Nodup) (hi : PI X tg iter (tI X.K ct W it)) (ok : BlkOk X.N X.env.scope scope own) (hsl : ∀ j ∈ t.slots, j ∈ own.map (·.2))
    (hg : ∀ (s : Shared) (H : Hp) (C : Addr) (cl : List (Str × Addr)) (fp : List Addr), PG (X.blk s H scope (compEnvC scope cl C X.env) fp) tg (tgR X.K t)) (ht : ∀ (s : Shared) (H : Hp) (C : Addr) (cl : List (Str × Addr)) (fp : List Addr), PTs (X.blk s H scope (compEnvC scope cl C X.env) fp) ifs (tT X.K ct W0 tt))
    (he : ∀ (s : Shared) (H : Hp) (C : Addr) (cl : List (Str × Addr)) (fp : List Addr), PE (X.blk s H scope (compEnvC scope cl C X.env) fp) elt (tD X.K ct W0 te)) (hs : ∀ x, foldedSetIterable iter X.env x = pure x := by intro _; rfl) :
    PE X (.ListComp elt [⟨tg, iter, ifs, 0⟩] scope pos) (tD X.K ct W (xLcN c it (own.map (·.2)) t tt te)) := PE.imp (pe_lc hc hN hi ok hg ht he hs) fun _ _ _ h => lc_of hsl h
/-! ### statements -/
def sSeq (a b : En → M Fl) : En → M Fl := fun env => M.bnd (a env) fun f => match f with
  | .nx e => b e
  | f => M.ret f
def sSkip : En → M Fl := fun env => M.ret (.nx env)
variable {st : Stmt} {rest body els : List Stmt} {e : Expr} {a b : En → M Fl} {m : En → M D}
theorem seq_of {K : PySem.W.Frag} {D : Ends} {σ : L2.St} {H : Hp} (h : tS K ct W (sSeq a b) D σ H) : tSeq (tS K ct W a) (tS K ct W b) D σ H := by
  obtain ⟨F, as, env, cs, ok, sl, h⟩ := h
  refine ⟨F, as, env, cs, ok, sl, out_imp (out_bnd h) fun f cs1 F1 H1 as1 g ok1 h1 => ?_⟩
  cases f with
  | nx env' =>
    intro σ' hl sl'
    refine ⟨F1, as1, env', cs1, ok1, sl', ?_⟩
    rw [hl]
    exact h1
  | rt d => exact h1 F1 H1 as1 (Gro.refl F1 H1 as1) ok1
  | bk env' => exact h1 F1 H1 as1 (Gro.refl F1 H1 as1) ok1
  | ct env' => exact h1 F1 H1 as1 (Gro.refl F1 H1 as1) ok1
theorem gs_cons (h1 : PS X st (tS X.K ct W a)) (h2 : PSs X rest (tS X.K ct W b)) : PSs X (st :: rest) (tS X.K ct W (sSeq a b)) := PSs.imp (pss_cons h1 h2) fun _ _ _ => seq_of
theorem gs_one (h : PS X st (tS X.K ct W a)) : PSs X [st] (tS X.K ct W a) := pss_one h
theorem gs_nil : PSs X [] (tS X.K ct W sSkip) := PSs.imp pss_nil (by
  rintro D σ H ⟨F, as, env, cs, ok, sl, h⟩
  exact out_ok ok h σ rfl sl)
/-- x = e, a, b = e -/
def sAsg (m : En → M D) (t : Tg) : En → M Fl := fun env => M.bnd (m env) fun d => match tgS t d env with
  | some e => M.ret (.nx e)
  | none => M.no
theorem asg_of {K : PySem.W.Frag} {t : Tg} {te : TE} {D : Ends} {σ : L2.St} {H : Hp} (k : ∀ Q, tD K ct W m σ H Q → te σ H Q) (h : tS K ct W (sAsg m t) D σ H) : tAsg te (tgR K t) D σ H := by
  obtain ⟨F, as, env, cs, ok, sl, h⟩ := h
  refine k _ ⟨F, as, env, cs, ok, sl, out_imp (out_bnd h) fun d cs1 F1 H1 as1 g ok1 h1 v hv => ?_⟩
  cases q : tgS t d env with
  | none =>
    rw [q] at h1
    exact False.elim h1
  | some env1 =>
    rw [q] at h1
    obtain ⟨σ', sl', hl, _, tq⟩ := tg_ok ok1 hv (sl.gro g) q
    exact tq _ (out_ok ok1 h1 σ' hl sl')
theorem gs_asg {t : Tg} (h : PS X st (tAsg (tD X.K ct W m) (tgR X.K t))) : PS X st (tS X.K ct W (sAsg m t)) := PS.imp h fun _ _ _ h => asg_of (fun _ q => q) h
theorem gs_lc {i : Nat} {c : Bool} {own : List (Str × Nat)} {it : En → M It0} {t : Tg} {tt : En → M Bool} {te : En → M D} (hsl : ∀ j ∈ t.slots, j ∈ own.map (·.2)) (h : PS X st (tAsg (tLc (tI X.K ct W it) (tgR X.K t) (tT X.K ct W0 tt) (tD X.K ct W0 te) (own.map (·.2))) (gName i))) : PS X st (tS X.K ct W (sAsg (xLcN c it (own.map (·.2)) t tt te) (.nm i))) :=
  PS.imp h fun _ _ _ h => asg_of (t := .nm i) (fun _ q => lc_of hsl q) h
/-- an expression alone -/
def sDrop (m : En → M D) : En → M Fl := fun env => M.bnd (m env) fun _ => M.ret (.nx env)
theorem gs_drop (he : PE X e (tD X.K ct W m)) (hs : swapsWith e none pos.line X.env = pure false := by rfl) : PS X (.Expr e pos) (tS X.K ct W (sDrop m)) := PS.imp (ps_expr he hs) (by
  rintro D σ H ⟨F, as, env, cs, ok, sl, h⟩
  exact ⟨F, as, env, cs, ok, sl, out_imp (out_bnd h) fun d cs1 F1 H1 as1 g ok1 h1 v hv => out_ok ok1 h1 σ rfl (sl.gro g)⟩)
def sRet (m : En → M D) : En → M Fl := fun env => M.bnd (m env) fun d => M.ret (.rt d)
theorem gs_ret (he : PE X e (tD X.K ct W m)) : PS X (.Return (some e) pos) (tS X.K ct W (sRet m)) := PS.imp (ps_ret he) (by
  rintro D σ H ⟨F, as, env, cs, ok, sl, h⟩
  exact ⟨F, as, env, cs, ok, sl, out_imp (out_bnd h) fun d cs1 F1 H1 as1 g ok1 h1 v hv => out_ok ok1 h1 v hv⟩)
def sIf (t : En → M Bool) (a b : En → M Fl) : En → M Fl := fun env => M.bnd (t env) fun k => if k = true then a env else b env
theorem gs_if {c : Expr} {t : En → M Bool} (hc : PT X c (tT X.K ct W t)) (ha : PSs X body (tS X.K ct W a)) (hb : PSs X els (tS X.K ct W b)) : PS X (.If c body els pos) (tS X.K ct W (sIf t a b)) := PS.imp (ps_if hc ha hb) (by
  rintro D σ H ⟨F, as, env, cs, ok, sl, h⟩
  refine ⟨F, as, env, cs, ok, sl, out_imp (out_bnd h) fun k cs1 F1 H1 as1 g ok1 h1 => ?_⟩
  cases k with
  | true => exact ⟨F1, as1, env, cs1, ok1, sl.gro g, h1⟩
  | false => exact ⟨F1, as1, env, cs1, ok1, sl.gro g, h1⟩)
/-- while, by fuel -/
def sWhile (t : En → M Bool) (b : En → M Fl) : Nat → En → M Fl
  | 0 => fun _ => M.no
  | n + 1 => fun env => M.bnd (t env) fun k => if k = true then M.bnd (b env) fun f => match f with
    | .nx e => sWhile t b n e
    | .ct e => sWhile t b n e
    | .bk e => M.ret (.nx e)
    | .rt d => M.ret (.rt d)
    else M.ret (.nx env)
theorem gs_while (n : Nat) {c : Expr} {t : En → M Bool} (hp : PassesOwn (model X.prog X.w) X.A X.env X.xe) (hc : PT X c (tT X.K ct W t)) (hb : PSs X body (tS X.K ct W b)) : PS X (.While c body [] pos) (tS X.K ct W (sWhile t b n)) := PS.imp (ps_while hp hc hb) (by
  intro D σ H h
  refine ⟨fun k σ' H' => σ'.length = σ.length ∧ tS X.K ct W (sWhile t b k) D σ' H', ⟨n, rfl, h⟩, ?_⟩
  rintro k σ' H' ⟨hl, F, as, env, cs, ok, sl, h⟩
  cases k with
  | zero => exact False.elim h
  | succ k =>
    refine ⟨F, as, env, cs, ok, sl, out_imp (out_bnd h) fun q cs1 F1 H1 as1 g ok1 h1 => ?_⟩
    cases q with
    | false => exact out_ok ok1 h1 σ' rfl (sl.gro g)
    | true =>
      rw [if_pos rfl] at h1 ⊢
      refine ⟨fun σ2 H2 => σ2.length = σ.length ∧ tS X.K ct W (sWhile t b k) D σ2 H2, fun σ2 H2 z => ⟨k, Nat.lt_succ_self k, z⟩, F1, as1, env, cs1, ok1, sl.gro g, out_imp (out_bnd h1) fun f cs2 F2 H2 as2 g2 ok2 h2 => ?_⟩
      cases f with
      | nx e => exact fun σ2 hl2 sl2 => ⟨hl2.trans hl, F2, as2, e, cs2, ok2, sl2, by rw [hl2]; exact h2⟩
      | ct e => exact fun σ2 hl2 sl2 => ⟨hl2.trans hl, F2, as2, e, cs2, ok2, sl2, by rw [hl2]; exact h2⟩
      | bk e =>
        intro σ2 hl2 sl2
        exact h2 F2 H2 as2 (Gro.refl F2 H2 as2) ok2 σ2 hl2 sl2
      | rt d => exact h2 F2 H2 as2 (Gro.refl F2 H2 as2) ok2)
/-- for -/
def forGo (live : Cs → Bool) (t : Tg) (b : En → M Fl) : List D → En → M Fl
  | [], env => guardM live (M.ret (.nx env))
  | x :: r, env => guardM live (match tgS t x env with
    | some env1 => M.bnd (b env1) fun f => match f with
      | .nx e => forGo live t b r e
      | .ct e => forGo live t b r e
      | .bk e => M.ret (.nx e)
      | .rt d => M.ret (.rt d)
    | none => M.no)
def sFor (it : En → M It0) (t : Tg) (b : En → M Fl) : En → M Fl := fun env => M.bnd (it env) fun i => forGo i.live t b i.items env
theorem gs_for {tg iter : Expr} {it : En → M It0} {t : Tg} (hp : PassesOwn (model X.prog X.w) X.A X.env X.xe) (hc : X.calm = true) (hi : PI X tg iter (tI X.K ct W it)) (hg : PG X tg (tgR X.K t)) (hb : PSs X body (tS X.K ct W b)) (hs : ∀ x, foldedSetIterable iter X.env x = pure x := by intro _; rfl) :
    PS X (.For tg iter body [] pos) (tS X.K ct W (sFor it t b)) := PS.imp (ps_for hp hc hi hg hb hs) (by
  rintro D σ H ⟨F, as, env, cs, ok, sl, h⟩
  refine ⟨F, as, env, cs, ok, sl, out_imp (out_bnd h) fun i cs1 F1 H1 as1 g1 ok1 h1 J hJ => ?_⟩
  refine ⟨fun k m σ' H' => m = i.items.length - k ∧ k ≤ i.items.length ∧ σ'.length = σ.length ∧ ∃ F2 as2 env2 cs2, Gro F1 H1 as1 F2 H' as2 ∧ Ok X.K F2 H' as2 cs2 ∧ Sl X.K F2 as2 σ' env2 ∧ out X.K ct W σ.length F2 H' as2 (forGo i.live t b (i.items.drop k) env2 cs2) (oS X.K σ.length D),
    ⟨i.items.length, by simp, Nat.zero_le _, rfl, F1, as1, env, cs1, Gro.refl _ _ _, ok1, sl.gro g1, h1⟩, ?_⟩
  rintro k m σ' H' ⟨rfl, hk, hl, F2, as2, env2, cs2, g2, ok2, sl2, h2⟩
  cases q : i.items.drop k with
  | nil =>
    rw [q] at h2
    obtain ⟨lv, h2⟩ := out_guard h2
    have ek := drop_nil q hk
    exact .inl ⟨by rw [ek]; exact (hJ F2 H' as2 cs2 g2 ok2 lv).2, out_ok ok2 h2 σ' hl sl2⟩
  | cons x r =>
    rw [q] at h2
    obtain ⟨hx, hr, hlt⟩ := getElem_drop q
    obtain ⟨lv, h2⟩ := out_guard h2
    obtain ⟨go, yl⟩ := (hJ F2 H' as2 cs2 g2 ok2 lv).1 k x hx
    refine .inr ⟨go, fun σ3 H3 => k + 1 ≤ i.items.length ∧ σ3.length = σ.length ∧ ∃ F2 as2 env2 cs2, Gro F1 H1 as1 F2 H3 as2 ∧ Ok X.K F2 H3 as2 cs2 ∧ Sl X.K F2 as2 σ3 env2 ∧ out X.K ct W σ.length F2 H3 as2 (forGo i.live t b (i.items.drop (k + 1)) env2 cs2) (oS X.K σ.length D),
      fun σ3 H3 z => ⟨i.items.length - (k + 1), by omega, rfl, z⟩, fun v H3 hy => ?_⟩
    obtain ⟨F3, g3, ok3, dv⟩ := yl v H3 hy
    cases q2 : tgS t x env2 with
    | none =>
      rw [q2] at h2
      exact False.elim h2
    | some env3 =>
      rw [q2] at h2
      obtain ⟨σ3, sl3, l3, _, tq⟩ := tg_ok ok3 dv (sl2.gro g3) q2
      have hl3 : σ3.length = σ.length := l3.trans hl
      refine tq _ ⟨F3, as2, env3, cs2, ok3, sl3, ?_⟩
      rw [hl3]
      refine out_imp (out_bnd (out_mono g3 h2)) fun f cs4 F4 H4 as4 g4 ok4 h4 => ?_
      cases f with
      | nx e => exact fun σ4 l4 sl4 => ⟨by omega, l4, F4, as4, e, cs4, (g2.trans g3).trans g4, ok4, sl4, by rw [hr]; exact h4⟩
      | ct e => exact fun σ4 l4 sl4 => ⟨by omega, l4, F4, as4, e, cs4, (g2.trans g3).trans g4, ok4, sl4, by rw [hr]; exact h4⟩
      | bk e => exact h4 F4 H4 as4 (Gro.refl F4 H4 as4) ok4
      | rt d => exact h4 F4 H4 as4 (Gro.refl F4 H4 as4) ok4)
/-! ### cells written -/
def cApp (i : Nat) (y : D) : M D := fun cs => match cs[i]? with
  | some xs => if szOk xs.length = true then .ok .non (cs.set i (xs ++ [y])) else .no
  | none => .no
def cPop (i : Nat) : M D := fun cs => match cs[i]? with
  | some xs => (match xs[xs.length - 1]? with
    | some y => .ok y (cs.set i xs.dropLast)
    | none => .no)
  | none => .no
def cPopAt (i : Nat) : D → M D
  | .int k => fun cs => match cs[i]? with
    | some xs => if decide (0 ≤ k ∧ k < xs.length ∧ k < 2 ^ 63) = true then (match xs[k.toNat]? with
      | some y => .ok y (cs.set i (xs.eraseIdx k.toNat))
      | none => .no) else .no
    | none => .no
  | _ => M.no
def xApp (o v : En → M D) : En → M D := fun env => M.bnd (o env) fun d => match d with
  | .ref i => M.bnd (v env) (cApp i)
  | _ => M.no
def xPop (o : En → M D) : En → M D := fun env => M.bnd (o env) fun d => match d with
  | .ref i => cPop i
  | _ => M.no
def xPopAt (o v : En → M D) : En → M D := fun env => M.bnd (o env) fun d => match d with
  | .ref i => M.bnd (v env) (cPopAt i)
  | _ => M.no
def sSetIx (v o i : En → M D) : En → M Fl := fun env => M.bnd (v env) fun y => M.bnd (o env) fun d => M.bnd (i env) fun k => match d, k with
  | .ref a, .int j => fun cs => match cs[a]? with
    | some xs => (match ixN xs.length j with
      | some n => .ok (.nx env) (cs.set a (xs.set n y))
      | none => .no)
    | none => .no
  | _, _ => M.no
variable {o i : Expr} {mo mi : En → M D} {apos : Pos}
theorem ref_at {K : PySem.W.Frag} {F H : Hp} {as : List Addr} {cs : Cs} {v : V} {i : Nat} {xs : List D} (ok : Ok K F H as cs) (h : Dv K F as v (.ref i)) (e : cs[i]? = some xs) : ∃ a ys, v = .ref a ∧ as[i]? = some a ∧ H a = some (.lst ys) ∧ DvL K F as ys xs := by
  cases h with
  | ref h1 =>
    obtain ⟨_, ys, h2, h3⟩ := ok.cell _ _ _ h1 e
    exact ⟨_, ys, rfl, h1, h2, h3⟩
theorem tyV_list {K : PySem.W.Frag} {H : Hp} {a : Addr} {ys : List V} (h : H a = some (.lst ys)) : tyV K "list" (.ref a) H := .inl ⟨rfl, ys, SqL.of h⟩
theorem tyV_ref {K : PySem.W.Frag} {F H : Hp} {as : List Addr} {cs : Cs} {v : V} {i : Nat} (ok : Ok K F H as cs) (h : Dv K F as v (.ref i)) : tyV K "list" v H := by
  cases h with
  | ref h1 =>
    obtain ⟨_, ys, h2⟩ := ok.old (List.mem_of_getElem? h1)
    exact tyV_list h2
theorem DvL.dropLast {K : PySem.W.Frag} {F : Hp} {as : List Addr} {vs : List V} {ds : List D} (h : DvL K F as vs ds) : DvL K F as vs.dropLast ds.dropLast := by
  rw [List.dropLast_eq_take, List.dropLast_eq_take, h.length]
  exact h.take _
theorem ge_app (ho : PE X o (tD X.K ct W mo)) (he : PE X e (tD X.K ct W m)) (hbase : attributeBase o "append" X.env (eval o X.env) = eval o X.env := by rfl)
    (hfew : ((backTo pos (starEach [e] X.env)).all (fun x => !x.1) && (backToKw pos (keywordEach [] X.env)).all (fun x => x.1.isSome) && decide (([e] : List Expr).length + ([] : List Keyword).length + (if ([] : List Keyword).isEmpty then 0 else 1) < 30)) = true := by rfl)
    (hline : (apos.endLine == pos.line) = true := by rfl) (hs : starEach [e] X.env = (false, eval e X.env) :: starEach [] X.env := by rfl) (hplain : (backTo pos (starEach [] X.env)).any (·.1) = false := by rfl) :
    PE X (.Call (.Attribute o "append" apos) [e] [] pos) (tD X.K ct W (xApp mo m)) := PE.imp (pe_bm PySem.F.plainAttrs_list PySem.F.slot_list_append PySem.F.type_list_append mt_append ho (pa_cons he pa_nil hs) hbase hfew hline hs hplain) (by
  rintro σ H Q ⟨F, as, env, cs, ok, sl, h⟩
  refine ⟨F, as, env, cs, ok, sl, out_imp (out_bnd h) fun d cs1 F1 H1 as1 g1 ok1 h1 v hv => ?_⟩
  split at h1
  · rename_i i
    refine ⟨tyV_ref ok1 hv, F1, as1, env, cs1, ok1, sl.gro g1, out_imp (out_bnd h1) fun y cs2 F2 H2 as2 g2 ok2 h2 u hu => ?_⟩
    unfold cApp at h2
    split at h2
    · split at h2
      · rename_i xs e1 q
        obtain ⟨a, ys, rfl, ha, hH, l⟩ := ref_at ok2 (hv.gro g2) e1
        exact ⟨a, ys, u, rfl, rfl, hH, by rw [l.length]; exact szOk_lt q, h2 _ _ as2 (gro_set _ ok2 ha hH) (ok_set ok2 ha (l.append (.cons hu .nil))) _ .non⟩
      · exact False.elim h2
    · exact False.elim h2
  · exact False.elim h1)
theorem ge_pop (ho : PE X o (tD X.K ct W mo)) (hbase : attributeBase o "pop" X.env (eval o X.env) = eval o X.env := by rfl) (hline : (apos.endLine == pos.line) = true := by rfl) :
    PE X (.Call (.Attribute o "pop" apos) [] [] pos) (tD X.K ct W (xPop mo)) := PE.imp (pe_bm0 PySem.F.plainAttrs_list PySem.F.slot_list_pop PySem.F.type_list_pop mt_pop ho hbase hline) (by
  rintro σ H Q ⟨F, as, env, cs, ok, sl, h⟩
  refine ⟨F, as, env, cs, ok, sl, out_imp (out_bnd h) fun d cs1 F1 H1 as1 g1 ok1 h1 v hv => ?_⟩
  split at h1
  · rename_i i
    refine ⟨tyV_ref ok1 hv, ?_⟩
    unfold cPop at h1
    split at h1
    · rename_i xs e1
      obtain ⟨a, ys, rfl, ha, hH, l⟩ := ref_at ok1 hv e1
      cases q : xs[xs.length - 1]? with
      | none =>
        rw [q] at h1
        exact False.elim h1
      | some y =>
        rw [q] at h1
        obtain ⟨w, hw, dw⟩ := l.get q
        exact ⟨a, ys, w, rfl, rfl, hH, by rw [l.length]; exact hw, h1 _ _ as1 (gro_set _ ok1 ha hH) (ok_set ok1 ha l.dropLast) _ dw⟩
    · exact False.elim h1
  · exact False.elim h1)
theorem ge_popAt (ho : PE X o (tD X.K ct W mo)) (he : PE X e (tD X.K ct W m)) (hbase : attributeBase o "pop" X.env (eval o X.env) = eval o X.env := by rfl)
    (hfew : ((backTo pos (starEach [e] X.env)).all (fun x => !x.1) && (backToKw pos (keywordEach [] X.env)).all (fun x => x.1.isSome) && decide (([e] : List Expr).length + ([] : List Keyword).length + (if ([] : List Keyword).isEmpty then 0 else 1) < 30)) = true := by rfl)
    (hline : (apos.endLine == pos.line) = true := by rfl) (hs : starEach [e] X.env = (false, eval e X.env) :: starEach [] X.env := by rfl) (hplain : (backTo pos (starEach [] X.env)).any (·.1) = false := by rfl) :
    PE X (.Call (.Attribute o "pop" apos) [e] [] pos) (tD X.K ct W (xPopAt mo m)) := PE.imp (pe_bm PySem.F.plainAttrs_list PySem.F.slot_list_pop PySem.F.type_list_pop mt_popAt ho (pa_cons he pa_nil hs) hbase hfew hline hs hplain) (by
  rintro σ H Q ⟨F, as, env, cs, ok, sl, h⟩
  refine ⟨F, as, env, cs, ok, sl, out_imp (out_bnd h) fun d cs1 F1 H1 as1 g1 ok1 h1 v hv => ?_⟩
  split at h1
  · rename_i i
    refine ⟨tyV_ref ok1 hv, F1, as1, env, cs1, ok1, sl.gro g1, out_imp (out_bnd h1) fun y cs2 F2 H2 as2 g2 ok2 h2 u hu => ?_⟩
    unfold cPopAt at h2
    split at h2
    · rename_i k
      try dsimp only at h2
      split at h2
      · split at h2
        · rename_i xs e1 q
          obtain ⟨q1, q2, q3⟩ := of_decide_eq_true q
          obtain ⟨a, ys, rfl, ha, hH, l⟩ := ref_at ok2 (hv.gro g2) e1
          cases hu
          cases q4 : xs[k.toNat]? with
          | none =>
            rw [q4] at h2
            exact False.elim h2
          | some y =>
            rw [q4] at h2
            obtain ⟨w, hw, dw⟩ := l.get q4
            exact ⟨a, ys, k, k.toNat, w, rfl, rfl, hH, by omega, q3, seqIndex_of q1 (by rw [l.length]; exact q2), hw, h2 _ _ as2 (gro_set _ ok2 ha hH) (ok_set ok2 ha (l.eraseIdx _)) _ dw⟩
        · exact False.elim h2
      · exact False.elim h2
    · exact False.elim h2
  · exact False.elim h1)
theorem gs_setIx (h : PS X st (tAsg (tD X.K ct W m) (gSub (tD X.K ct W mo) (tD X.K ct W mi) rSetL))) : PS X st (tS X.K ct W (sSetIx m mo mi)) := PS.imp h (by
  rintro D σ H ⟨F, as, env, cs, ok, sl, h⟩
  refine ⟨F, as, env, cs, ok, sl, out_imp (out_bnd h) fun y cs1 F1 H1 as1 g1 ok1 h1 v hv => ?_⟩
  refine ⟨F1, as1, env, cs1, ok1, sl.gro g1, out_imp (out_bnd h1) fun d cs2 F2 H2 as2 g2 ok2 h2 u hu => ?_⟩
  refine ⟨F2, as2, env, cs2, ok2, (sl.gro g1).gro g2, out_imp (out_bnd h2) fun k cs3 F3 H3 as3 g3 ok3 h3 w hw => ?_⟩
  split at h3
  · rename_i i j
    try dsimp only at h3
    split at h3
    · rename_i xs e1
      obtain ⟨a, ys, rfl, ha, hH, l⟩ := ref_at ok3 (hu.gro g3) e1
      cases hw
      cases q : ixN xs.length j with
      | none =>
        rw [q] at h3
        exact False.elim h3
      | some n =>
        rw [q] at h3
        have g4 := gro_set (.lst (ys.set n v)) ok3 ha hH
        exact ⟨a, ys, j, n, rfl, rfl, hH, by rw [l.length]; exact q, h3 _ _ as3 g4 (ok_set ok3 ha (l.set ((hv.gro g2).gro g3) n)) σ rfl (((sl.gro g1).gro g2).gro g3 |>.gro g4)⟩
    · exact False.elim h3
  · exact False.elim h3)
end
end G
/-! G5: defs, calls, refusals. -/
namespace G
open L2 PySem PySem.Spec PyProof.Rows
/-! ### cells resolved -/
mutual
def rsG (r : Nat → Option D) : D → Option D
  | .tup xs => (rsGL r xs).map .tup
  | .lst xs => (rsGL r xs).map .lst
  | .ref i => r i
  | .non => some .non
  | .bl b => some (.bl b)
  | .int i => some (.int i)
  | .str x => some (.str x)
  | .dic => some .dic
  | .scr ns => some (.scr ns)
def rsGL (r : Nat → Option D) : List D → Option (List D)
  | [] => some []
  | d :: ds => match rsG r d, rsGL r ds with
    | some p, some ps => some (p :: ps)
    | _, _ => none
end
def rsN (cs : Cs) : Nat → Nat → Option D
  | 0, _ => none
  | n + 1, i => match cs[i]? with
    | some xs => (rsGL (rsN cs n) xs).map .lst
    | none => none
def res (cs : Cs) (d : D) : Option D := rsG (rsN cs 3) d
open Classical in
noncomputable def frz (F H : Hp) (as : List Addr) : Hp := fun p => if p ∈ as then H p else F p
section
variable {K : PySem.W.Frag} {F H F0 H0 : Hp} {as : List Addr} {cs : Cs}
theorem frz_in {p : Addr} (h : p ∈ as) : frz F H as p = H p := if_pos h
theorem frz_out {p : Addr} (h : p ∉ as) : frz F H as p = F p := if_neg h
theorem ext_frz (ok : Ok K F H as cs) : Ext F (frz F H as) := fun p o h => by
  rw [frz_out fun m => by
    rw [(ok.old m).1] at h
    cases h]
  exact h
theorem frz_ext (ok : Ok K F H as cs) : Ext (frz F H as) H := fun p o h => by
  by_cases m : p ∈ as
  · rw [frz_in m] at h
    exact h
  · rw [frz_out m] at h
    exact ok.fh p o h
theorem ok_frz (ok : Ok K F H as cs) : Ok K (frz F H as) H [] [] := ⟨frz_ext ok, List.nodup_nil, rfl, fun i a xs h _ => by simp at h⟩
theorem gro_frz (ok : Ok K F H as cs) (g : Gro F0 H0 [] F H as) : Gro F0 H0 [] (frz F H as) H [] where
  ff := g.ff.trans (ext_frz ok)
  fn := fun p h => by
    rw [frz_out fun m => (g.an p m).elim (fun z => nomatch z) h]
    exact g.fn p h
  hh := g.hh
  hl := g.hl
  ap := List.prefix_rfl
  an := fun _ m => .inl m
mutual
theorem rsG_dv (ok : Ok K F H as cs) {r : Nat → Option D} (hr : ∀ i p a, r i = some p → as[i]? = some a → Dv K (frz F H as) [] (.ref a) p) : ∀ {v : V} {d p : D}, Dv K F as v d → rsG r d = some p → Dv K (frz F H as) [] v p
  | _, _, _, .non, e => by
    cases e
    exact .non
  | _, _, _, .bl b, e => by
    cases e
    exact .bl b
  | _, _, _, .int i, e => by
    cases e
    exact .int i
  | _, _, _, .str x, e => by
    cases e
    exact .str x
  | _, _, p, .tup (ds := ds) h l, e => by
    have e2 : (rsGL r ds).map D.tup = some p := e
    cases q : rsGL r ds with
    | none =>
      rw [q] at e2
      cases e2
    | some ps =>
      rw [q] at e2
      cases e2
      exact .tup (ext_frz ok _ _ h) (rsGL_dv ok hr l q)
  | _, _, p, .lst (ds := ds) h l, e => by
    have e2 : (rsGL r ds).map D.lst = some p := e
    cases q : rsGL r ds with
    | none =>
      rw [q] at e2
      cases e2
    | some ps =>
      rw [q] at e2
      cases e2
      exact .lst (ext_frz ok _ _ h) (rsGL_dv ok hr l q)
  | _, _, _, .ref h, e => hr _ _ _ e h
  | _, _, _, .dic h, e => by
    cases e
    exact .dic (ext_frz ok _ _ h)
  | _, _, _, .scr h, e => by
    cases e
    exact .scr (ext_l (ext_frz ok) h)
theorem rsGL_dv (ok : Ok K F H as cs) {r : Nat → Option D} (hr : ∀ i p a, r i = some p → as[i]? = some a → Dv K (frz F H as) [] (.ref a) p) : ∀ {vs : List V} {ds ps : List D}, DvL K F as vs ds → rsGL r ds = some ps → DvL K (frz F H as) [] vs ps
  | _, _, _, .nil, e => by
    cases e
    exact .nil
  | _, _, ps, .cons (d := d) (ds := ds) h t, e => by
    have e2 : (match rsG r d, rsGL r ds with
      | some p, some ps => some (p :: ps)
      | _, _ => none) = some ps := e
    split at e2
    · rename_i p qs e3 e4
      cases e2
      exact .cons (rsG_dv ok hr h e3) (rsGL_dv ok hr t e4)
    · cases e2
end
theorem rsN_dv (ok : Ok K F H as cs) : ∀ (n i : Nat) (p : D) (a : Addr), rsN cs n i = some p → as[i]? = some a → Dv K (frz F H as) [] (.ref a) p
  | 0, _, _, _, e, _ => by cases e
  | n + 1, i, p, a, e, ha => by
    have e2 : (match cs[i]? with
      | some xs => (rsGL (rsN cs n) xs).map D.lst
      | none => none) = some p := e
    cases hc : cs[i]? with
    | none =>
      rw [hc] at e2
      cases e2
    | some xs =>
      rw [hc] at e2
      have e3 : (rsGL (rsN cs n) xs).map D.lst = some p := e2
      obtain ⟨_, ys, h1, h2⟩ := ok.cell i a xs ha hc
      cases q : rsGL (rsN cs n) xs with
      | none =>
        rw [q] at e3
        cases e3
      | some ps =>
        rw [q] at e3
        cases e3
        exact .lst (by rw [frz_in (List.mem_of_getElem? ha)]; exact h1) (rsGL_dv ok (rsN_dv ok n) h2 q)
theorem res_dv (ok : Ok K F H as cs) {v : V} {d p : D} (h : Dv K F as v d) (e : res cs d = some p) : Dv K (frz F H as) [] v p := rsG_dv ok (rsN_dv ok 3) h e
/-! ### data without cells -/
mutual
def noR : D → Bool
  | .ref _ => false
  | .tup xs => noRL xs
  | .lst xs => noRL xs
  | _ => true
def noRL : List D → Bool
  | [] => true
  | d :: ds => noR d && noRL ds
end
mutual
theorem Dv.noR : ∀ {v : V} {d : D}, Dv K F as v d → G.noR d = true → Dv K F [] v d
  | _, _, .non, _ => .non
  | _, _, .bl b, _ => .bl b
  | _, _, .int i, _ => .int i
  | _, _, .str x, _ => .str x
  | _, _, .tup h l, e => .tup h (DvL.noR l e)
  | _, _, .lst h l, e => .lst h (DvL.noR l e)
  | _, _, .ref _, e => by cases e
  | _, _, .dic h, _ => .dic h
  | _, _, .scr h, _ => .scr h
theorem DvL.noR : ∀ {vs : List V} {ds : List D}, DvL K F as vs ds → G.noRL ds = true → DvL K F [] vs ds
  | _, _, .nil, _ => .nil
  | _, _, .cons h t, e => by
    obtain ⟨e1, e2⟩ := Bool.and_eq_true_iff.mp (show (G.noR _ && G.noRL _) = true from e)
    exact .cons (Dv.noR h e1) (DvL.noR t e2)
end
end
/-! ### what a def is worth -/
inductive Rp where
  | ok (d : D) | ex (x : Exn) | no
def up : Rp → M D
  | .ok d => M.ret d
  | .ex x => M.thr x
  | .no => M.no
def startE (k : Nat) (ds : List D) : En := ds.map some ++ List.replicate (k - ds.length) none
def runP (c : En → M Fl) (k : Nat) (ds : List D) : Rp := match c (startE k ds) [] with
  | .ok (.rt d) cs => (match res cs d with
    | some p => .ok p
    | none => .no)
  | .ok (.nx _) _ => .ok .non
  | .ok _ _ => .no
  | .ex x _ => .ex x
  | .no => .no
def runM (c : En → M Fl) (k : Nat) (ds : List D) : M D := M.bnd (c (startE k ds)) fun f => match f with
  | .rt d => M.ret d
  | .nx _ => M.ret .non
  | _ => M.no
def spM (K : PySem.W.Frag) (ct : Ct) (n : Nat) (f : List D → M D) : Sp := fun vs H Q E => ∃ F as ds cs, Ok K F H as cs ∧ DvL K F as vs ds ∧ ds.length = n ∧ out K ct (fun c d _ H => E c d H) 0 F H as (f ds cs) (oD K Q)
def spP (K : PySem.W.Frag) (ct : Ct) (n : Nat) (f : List D → Rp) : Sp := fun vs H Q E => ∃ F ds, Ok K F H [] [] ∧ DvL K F [] vs ds ∧ ds.length = n ∧ out K ct (fun c d _ H => E c d H) 0 F H [] (up (f ds) []) (oD K Q)
/-- its list is a new one, nobody else's -/
def oO (K : PySem.W.Frag) (H0 : Hp) (Q : VK) : D → Cs → Hp → Hp → List Addr → Prop := fun d _ F' H' as' => match d with
  | .lst xs => ∀ p ys, H0 p = none → F' p = none → H' p = some (.lst ys) → DvL K F' [] ys xs → Q (.ref p) H'
  | d => ∀ v, Dv K F' as' v d → Q v H'
def spO (K : PySem.W.Frag) (ct : Ct) (n : Nat) (f : List D → Rp) : Sp := fun vs H Q E => ∃ F ds, Ok K F H [] [] ∧ DvL K F [] vs ds ∧ ds.length = n ∧ out K ct (fun c d _ H => E c d H) 0 F H [] (up (f ds) []) (oO K H Q)
section
variable {P : Program} {w : World} {K : PySem.W.Frag} {mg : Str → Option Value} {base : Heap} {ct : Ct}
abbrev FnP (P : Program) (w : World) (K : PySem.W.Frag) (mg : Str → Option Value) (base : Heap) (k : Nat) (f : Addr) (fd : FuncData) (ps : List Str) (sp : Sp) : Prop := FnOk P w K mg base (L2.CX P w) k f fd ps sp
theorem spP_of_O {n : Nat} {f : List D → Rp} {vs : List V} {H : Hp} {Q : VK} {E : XK} (h : spP K ct n f vs H Q E) : spO K ct n f vs H Q E := by
  obtain ⟨F, ds, ok, hv, hl, h⟩ := h
  refine ⟨F, ds, ok, hv, hl, ?_⟩
  cases q : f ds with
  | no =>
    rw [q] at h
    exact h
  | ex x =>
    rw [q] at h
    exact h
  | ok d =>
    rw [q] at h
    intro F' H' as' g ok'
    have h2 := h
    cases d with
    | lst xs =>
      intro p ys hp fp hH hy
      have ea : as' = [] := List.eq_nil_of_length_eq_zero ok'.len
      subst ea
      have ok2 : Ok K (upd F' p (.lst ys)) H' [] [] := ⟨fun a u e => by
        by_cases q : a = p
        · rw [q, upd_same] at e
          cases e
          rw [q]
          exact hH
        · rw [upd_ne q] at e
          exact ok'.fh a u e, List.nodup_nil, rfl, fun i a xs z _ => by simp at z⟩
      have g2 : Gro F H [] (upd F' p (.lst ys)) H' [] := ⟨g.ff.trans (Ext.new fp), fun a ha => by
        rw [upd_ne fun e => ha (by rw [e]; exact hp)]
        exact g.fn a ha, g.hh, g.hl, g.ap, g.an⟩
      exact h2 _ _ [] g2 ok2 _ (.lst upd_same (hy.mono (Ext.new fp) List.prefix_rfl))
    | _ => exact fun v hv => h2 F' H' as' g ok' v hv
theorem FnOk.ofO {n k : Nat} {f : List D → Rp} {fa : Addr} {fd : FuncData} {ps : List Str} (h : FnP P w K mg base k fa fd ps (spO K ct n f)) : FnP P w K mg base k fa fd ps (spP K ct n f) := h.imp fun _ _ _ _ => spP_of_O
theorem ok_nil {K : PySem.W.Frag} {F H : Hp} {as : List Addr} {cs : Cs} (ok : Ok K F H as cs) : Ok K F H [] [] := ⟨ok.fh, List.nodup_nil, rfl, fun i a xs h _ => by simp at h⟩
abbrev FunG (K : PySem.W.Frag) (x : Str) (st : Stmt) (f : Addr) (fd : FuncData) : Prop := FunD K x x (defArgs st) (defBody st) (defScope st) [] [] f fd
/-- the context of a def's body -/
abbrev cxG (P : Program) (w : World) (K : PySem.W.Frag) (mg : Str → Option Value) (base : Heap) (N : List Str) (x : Str) (st : Stmt) (f : Addr) (cdv : Value) (A : Around) (outer : List Env) (s : Shared) (H : Hp) (E : XK) : Cx :=
  cxOf (L2.CX P w) P w K mg base N x (defScope st) f cdv A outer s H E
theorem start_of {N : List Str} {vs : List V} {ds : List D} {F : Hp} {as : List Addr} (h : DvL K F as vs ds) : Sl K F as (L2.start N vs) (startE N.length ds) := by
  unfold L2.start startE
  rw [h.length]
  exact Sl.start _ h
theorem def_P {x : Str} {st : Stmt} {f : Addr} {fd : FuncData} {N ps : List Str} {k n : Nat} {c : En → M Fl} (F : FunG K x st f fd) (S : FnScope N ps (defScope st)) (hn : ps.length = n)
    (body : ∀ (cdv : Value) (A : Around) (outer : List Env) (s : Shared) (H : Hp) (E : XK), Room k (A.deeper (envOfC x (defScope st) s.heap.objs.size f cdv)) → PSs (cxG P w K mg base N x st f cdv A outer s H E) (defBody st) (tS K ct (fun c d _ H => E c d H) c)) :
    FnP P w K mg base (k + 1) f fd ps (spP K ct n (runP c N.length)) := by
  refine F.ok S (fun vs H Q E h => ?_) (fun cdv A outer s H vs Q E hr h => ⟨_, body cdv A outer s H E hr, ?_⟩)
  · obtain ⟨_, _, _, hv, hl, _⟩ := h
    rw [hv.length, hl, hn]
  · obtain ⟨F', ds, ok, hv, hl, h⟩ := h
    refine ⟨F', [], startE N.length ds, [], ok, start_of hv, ?_⟩
    unfold runP at h
    cases q : c (startE N.length ds) [] with
    | no =>
      rw [q] at h
      exact h
    | ex e cs =>
      rw [q] at h
      intro c' d σ' F1 H1 as1 _ g ok1 hx
      have xr : XRel ct H1 e c' d := hx
      exact h c' d [] (frz F1 H1 as1) H1 [] rfl (gro_frz ok1 g) (ok_frz ok1) xr
    | ok fl cs =>
      rw [q] at h
      intro F1 H1 as1 g ok1
      cases fl with
      | nx e => exact fun σ' _ _ => h (frz F1 H1 as1) H1 [] (gro_frz ok1 g) (ok_frz ok1) _ .non
      | bk e => exact False.elim h
      | ct e => exact False.elim h
      | rt d =>
        intro v dv
        have h2 : out K ct (fun c d _ H => E c d H) 0 F' H [] (up (match res cs d with
          | some p => Rp.ok p
          | none => Rp.no) []) (oD K Q) := h
        cases q2 : res cs d with
        | none =>
          rw [q2] at h2
          exact False.elim h2
        | some p =>
          rw [q2] at h2
          exact h2 (frz F1 H1 as1) H1 [] (gro_frz ok1 g) (ok_frz ok1) v (res_dv ok1 dv q2)
theorem def_M {x : Str} {st : Stmt} {f : Addr} {fd : FuncData} {N ps : List Str} {k n : Nat} {c : En → M Fl} (F : FunG K x st f fd) (S : FnScope N ps (defScope st)) (hn : ps.length = n)
    (body : ∀ (cdv : Value) (A : Around) (outer : List Env) (s : Shared) (H : Hp) (E : XK), Room k (A.deeper (envOfC x (defScope st) s.heap.objs.size f cdv)) → PSs (cxG P w K mg base N x st f cdv A outer s H E) (defBody st) (tS K ct (fun c d _ H => E c d H) c)) :
    FnP P w K mg base (k + 1) f fd ps (spM K ct n (runM c N.length)) := by
  refine F.ok S (fun vs H Q E h => ?_) (fun cdv A outer s H vs Q E hr h => ⟨_, body cdv A outer s H E hr, ?_⟩)
  · obtain ⟨_, _, _, _, _, hv, hl, _⟩ := h
    rw [hv.length, hl, hn]
  · obtain ⟨F', as, ds, cs, ok, hv, hl, h⟩ := h
    refine ⟨F', as, startE N.length ds, cs, ok, start_of hv, ?_⟩
    have h2 : out K ct (fun c d _ H => E c d H) 0 F' H as (c (startE N.length ds) cs) _ := out_bnd h
    cases q : c (startE N.length ds) cs with
    | no =>
      rw [q] at h2
      exact h2
    | ex e cs2 =>
      rw [q] at h2
      exact fun c' d σ' F1 H1 as1 _ g ok1 hx => h2 c' d [] F1 H1 as1 rfl g ok1 hx
    | ok fl cs2 =>
      rw [q] at h2
      intro F1 H1 as1 g ok1
      have h3 := h2 F1 H1 as1 g ok1
      cases fl with
      | nx e => exact fun σ' _ _ => h3 F1 H1 as1 (Gro.refl _ _ _) ok1 _ .non
      | bk e => exact False.elim h3
      | ct e => exact False.elim h3
      | rt d => exact fun v dv => h3 F1 H1 as1 (Gro.refl _ _ _) ok1 v dv
def runO (c : En → M Fl) (k : Nat) (ds : List D) : Rp := match c (startE k ds) [] with
  | .ok (.rt (.ref i)) cs => (match cs[i]? with
    | some xs => if noRL xs = true then .ok (.lst xs) else .no
    | none => .no)
  | .ex x _ => .ex x
  | _ => .no
theorem def_O {x : Str} {st : Stmt} {f : Addr} {fd : FuncData} {N ps : List Str} {k n : Nat} {c : En → M Fl} (F : FunG K x st f fd) (S : FnScope N ps (defScope st)) (hn : ps.length = n)
    (body : ∀ (cdv : Value) (A : Around) (outer : List Env) (s : Shared) (H : Hp) (E : XK), Room k (A.deeper (envOfC x (defScope st) s.heap.objs.size f cdv)) → PSs (cxG P w K mg base N x st f cdv A outer s H E) (defBody st) (tS K ct (fun c d _ H => E c d H) c)) :
    FnP P w K mg base (k + 1) f fd ps (spO K ct n (runO c N.length)) := by
  refine F.ok S (fun vs H Q E h => ?_) (fun cdv A outer s H vs Q E hr h => ⟨_, body cdv A outer s H E hr, ?_⟩)
  · obtain ⟨_, _, _, hv, hl, _⟩ := h
    rw [hv.length, hl, hn]
  · obtain ⟨F', ds, ok, hv, hl, h⟩ := h
    refine ⟨F', [], startE N.length ds, [], ok, start_of hv, ?_⟩
    unfold runO at h
    cases q : c (startE N.length ds) [] with
    | no =>
      rw [q] at h
      exact h
    | ex e cs =>
      rw [q] at h
      intro c' d σ' F1 H1 as1 _ g ok1 hx
      exact h c' d [] (frz F1 H1 as1) H1 [] rfl (gro_frz ok1 g) (ok_frz ok1) hx
    | ok fl cs =>
      rw [q] at h
      cases fl with
      | nx e => exact False.elim h
      | bk e => exact False.elim h
      | ct e => exact False.elim h
      | rt d =>
        cases d with
        | ref i =>
          intro F1 H1 as1 g ok1 v dv
          have h2 : out K ct (fun c d _ H => E c d H) 0 F' H [] (up (match cs[i]? with
            | some xs => if noRL xs = true then Rp.ok (.lst xs) else Rp.no
            | none => Rp.no) []) (oO K H Q) := h
          cases q2 : cs[i]? with
          | none =>
            rw [q2] at h2
            exact False.elim h2
          | some xs =>
            rw [q2] at h2
            have h3 : out K ct (fun c d _ H => E c d H) 0 F' H [] (up (if noRL xs = true then Rp.ok (.lst xs) else Rp.no) []) (oO K H Q) := h2
            by_cases nr : noRL xs = true
            · rw [if_pos nr] at h3
              obtain ⟨a, ys, rfl, ha, hH, l⟩ := ref_at ok1 dv q2
              have m : a ∈ as1 := List.mem_of_getElem? ha
              have hn : H a = none := (g.an a m).elim (fun z => nomatch z) fun z => z
              have ok2 : Ok K F1 H1 [] [] := ok_nil ok1
              have g2 : Gro F' H [] F1 H1 [] := ⟨g.ff, g.fn, g.hh, g.hl, List.prefix_rfl, fun _ z => .inl z⟩
              exact h3 F1 H1 [] g2 ok2 a ys hn (ok1.old m).1 hH (l.noR nr)
            · rw [if_neg nr] at h3
              exact False.elim h3
        | _ => exact False.elim h
/-- a def that is never called -/
theorem fn_no {f : Addr} {fd : FuncData} {ps : List Str} {k n : Nat} (hn : ps.length = n) : FnP P w K mg base k f fd ps (spP K ct n fun _ => .no) := ⟨fun vs H Q E h => by
  obtain ⟨_, _, _, hv, hl, _⟩ := h
  rw [hv.length, hl, hn], fun _ _ _ _ _ _ _ _ _ _ _ _ _ h => by
  obtain ⟨_, _, _, _, _, h⟩ := h
  exact False.elim h⟩
/-- where a def stands, what it promises -/
def Dp' (P : Program) (w : World) (K : PySem.W.Frag) (mg : Str → Option Value) (base : Heap) (k : Nat) (x : Str) (ps : List Str) (sp : Sp) : Prop := ∃ fa fd, mg x = some (.ref fa) ∧ PySem.W.keepIn K (.ref fa) = true ∧ L2.Binds K fd ps [] ∧ FnP P w K mg base k fa fd ps sp
theorem Dp'.ofO {k n : Nat} {x : Str} {ps : List Str} {f : List D → Rp} (h : Dp' P w K mg base k x ps (spO K ct n f)) : Dp' P w K mg base k x ps (spP K ct n f) := by
  obtain ⟨fa, fd, a, b, c, d⟩ := h
  exact ⟨fa, fd, a, b, c, FnOk.ofO d⟩
end
/-! ### calls -/
def xCallM (f : List D → M D) (a : En → M (List D)) : En → M D := fun env => M.bnd (a env) f
def xCallP (f : List D → Rp) (a : En → M (List D)) : En → M D := fun env => M.bnd (a env) fun ds => if noRL ds = true then up (f ds) else M.no
def xCallO (f : List D → Rp) (a : En → M (List D)) : En → M D := fun env => M.bnd (a env) fun ds => if noRL ds = true then (match f ds with
  | .ok (.lst xs) => mkL true xs
  | r => up r) else M.no
section
variable {X : Cx} {ct : Ct} {W : WX} {k n : Nat} {fa : Addr} {fd : FuncData} {ps : List Str} {x : Str} {p pos : Pos} {e : Expr} {es : List Expr} {mas : En → M (List D)}
theorem gro_nil {K : PySem.W.Frag} {F H F' H' : Hp} {as : List Addr} {cs : Cs} (ok : Ok K F H as cs) (g : Gro F H [] F' H' []) (ok' : Ok K F' H' [] []) : Gro F H as F' H' as ∧ Ok K F' H' as cs := by
  refine ⟨⟨g.ff, g.fn, fun p o h _ => g.hh p o h (by simp), g.hl, List.prefix_rfl, fun _ m => .inl m⟩, ⟨ok'.fh, ok.nd, ok.len, fun i a xs ha hx => ?_⟩⟩
  obtain ⟨h1, ys, h2, h3⟩ := ok.cell i a xs ha hx
  exact ⟨by rw [g.fn a (by rw [h2]; exact fun z => nomatch z)]; exact h1, ys, g.hh a _ h2 (by simp), h3.mono g.ff List.prefix_rfl⟩
theorem ok_nil' {K : PySem.W.Frag} {F H : Hp} {as : List Addr} {cs : Cs} (ok : Ok K F H as cs) : Ok K F H [] [] := ⟨ok.fh, List.nodup_nil, rfl, fun i a xs h _ => by simp at h⟩
theorem ge_callM {f : List D → M D} (Fn : FnP X.prog X.w X.K X.mg X.base k fa fd ps (spM X.K ct n f)) (hr : Room k X.A) (tk : Takes X W) (hg : Gl X x) (hm : X.mg x = some (.ref fa)) (hk : PySem.W.keepIn X.K (.ref fa) = true) (hb : Binds X.K fd ps []) (hn : ∀ env cs ds cs', mas env cs = .ok ds cs' → ds.length = n)
    (ha : PA X (e :: es) (tA X.K ct W mas)) (hdb : (x == ("__debug__" : Str)) = false := by decide) (he : starEach (e :: es) X.env = (false, eval e X.env) :: starEach es X.env := by rfl) (hpl : (backTo pos (starEach es X.env)).any (·.1) = false := by rfl) :
    PE X (.Call (.Name x p) (e :: es) [] pos) (tD X.K ct W (xCallM f mas)) := PE.imp (pe_callS Fn hr hg hm hk hb (fun σ => passAt tk σ) ha hdb he hpl) (by
  rintro σ H Q ⟨F, as, env, cs, ok, sl, h⟩
  refine ⟨F, as, env, cs, ok, sl, ?_⟩
  have h2 := out_bnd h
  cases q : mas env cs with
  | no =>
    rw [q] at h2
    exact h2
  | ex y cs2 =>
    rw [q] at h2
    exact h2
  | ok ds cs2 =>
    rw [q] at h2
    intro F1 H1 as1 g1 ok1 vs hvs
    refine ⟨F1, as1, ds, cs2, ok1, hvs, hn env cs ds cs2 q, ?_⟩
    have h3 : out X.K ct W σ.length F1 H1 as1 (f ds cs2) (oD X.K Q) := h2 F1 H1 as1 g1 ok1
    cases q2 : f ds cs2 with
    | no =>
      rw [q2] at h3
      exact h3
    | ex y cs3 =>
      rw [q2] at h3
      exact fun c d σ' F2 H2 as2 _ g ok2 hx => h3 c d σ F2 H2 as2 rfl g ok2 hx
    | ok d cs3 =>
      rw [q2] at h3
      exact h3)
theorem callP_core {f : List D → Rp} {σ : L2.St} {H1 F1 : Hp} {as1 : List Addr} {cs1 : Cs} {vs : List V} {ds : List D} {Q : VK} (hlen : ds.length = n) (ok1 : Ok X.K F1 H1 as1 cs1) (hvs : DvL X.K F1 as1 vs ds) (nr : noRL ds = true)
    (h : out X.K ct W σ.length F1 H1 as1 (up (f ds) cs1) (oD X.K Q)) : spP X.K ct n f vs H1 Q (WE W σ) := by
  refine ⟨F1, ds, ok_nil ok1, hvs.noR nr, hlen, ?_⟩
  cases q : f ds with
  | no =>
    rw [q] at h
    exact h
  | ex y =>
    rw [q] at h
    intro c d σ' F2 H2 as2 _ g ok2 hx
    have ea : as2 = [] := List.eq_nil_of_length_eq_zero ok2.len
    subst ea
    obtain ⟨g3, ok3⟩ := gro_nil ok1 g ok2
    exact h c d σ F2 H2 as1 rfl g3 ok3 hx
  | ok d =>
    rw [q] at h
    intro F2 H2 as2 g ok2 v dv
    have ea : as2 = [] := List.eq_nil_of_length_eq_zero ok2.len
    subst ea
    obtain ⟨g3, ok3⟩ := gro_nil ok1 g ok2
    exact h F2 H2 as1 g3 ok3 v (dv.mono (Ext.refl _) (List.nil_prefix))
theorem ge_callP {f : List D → Rp} (Fn : FnP X.prog X.w X.K X.mg X.base k fa fd ps (spP X.K ct n f)) (hr : Room k X.A) (tk : Takes X W) (hg : Gl X x) (hm : X.mg x = some (.ref fa)) (hk : PySem.W.keepIn X.K (.ref fa) = true) (hb : Binds X.K fd ps []) (hn : ∀ env cs ds cs', mas env cs = .ok ds cs' → ds.length = n)
    (ha : PA X (e :: es) (tA X.K ct W mas)) (hdb : (x == ("__debug__" : Str)) = false := by decide) (he : starEach (e :: es) X.env = (false, eval e X.env) :: starEach es X.env := by rfl) (hpl : (backTo pos (starEach es X.env)).any (·.1) = false := by rfl) :
    PE X (.Call (.Name x p) (e :: es) [] pos) (tD X.K ct W (xCallP f mas)) := PE.imp (pe_callS Fn hr hg hm hk hb (fun σ => passAt tk σ) ha hdb he hpl) (by
  rintro σ H Q ⟨F, as, env, cs, ok, sl, h⟩
  refine ⟨F, as, env, cs, ok, sl, ?_⟩
  have h2 := out_bnd h
  cases q : mas env cs with
  | no =>
    rw [q] at h2
    exact h2
  | ex y cs2 =>
    rw [q] at h2
    exact h2
  | ok ds cs2 =>
    rw [q] at h2
    intro F1 H1 as1 g1 ok1 vs hvs
    have h3 : out X.K ct W σ.length F1 H1 as1 ((if noRL ds = true then up (f ds) else M.no) cs2) (oD X.K Q) := h2 F1 H1 as1 g1 ok1
    split at h3
    · rename_i nr
      exact callP_core (hn env cs ds cs2 q) ok1 hvs nr h3
    · exact False.elim h3)
theorem ge_callO {f : List D → Rp} (Fn : FnP X.prog X.w X.K X.mg X.base k fa fd ps (spO X.K ct n f)) (hr : Room k X.A) (tk : Takes X W) (hg : Gl X x) (hm : X.mg x = some (.ref fa)) (hk : PySem.W.keepIn X.K (.ref fa) = true) (hb : Binds X.K fd ps []) (hn : ∀ env cs ds cs', mas env cs = .ok ds cs' → ds.length = n)
    (ha : PA X (e :: es) (tA X.K ct W mas)) (hdb : (x == ("__debug__" : Str)) = false := by decide) (he : starEach (e :: es) X.env = (false, eval e X.env) :: starEach es X.env := by rfl) (hpl : (backTo pos (starEach es X.env)).any (·.1) = false := by rfl) :
    PE X (.Call (.Name x p) (e :: es) [] pos) (tD X.K ct W (xCallO f mas)) := PE.imp (pe_callS Fn hr hg hm hk hb (fun σ => passAt tk σ) ha hdb he hpl) (by
  rintro σ H Q ⟨F, as, env, cs, ok, sl, h⟩
  refine ⟨F, as, env, cs, ok, sl, ?_⟩
  have h2 := out_bnd h
  cases q : mas env cs with
  | no =>
    rw [q] at h2
    exact h2
  | ex y cs2 =>
    rw [q] at h2
    exact h2
  | ok ds cs2 =>
    rw [q] at h2
    intro F1 H1 as1 g1 ok1 vs hvs
    have h3 : out X.K ct W σ.length F1 H1 as1 ((if noRL ds = true then (match f ds with
      | .ok (.lst xs) => mkL true xs
      | r => up r) else M.no) cs2) (oD X.K Q) := h2 F1 H1 as1 g1 ok1
    split at h3
    · rename_i nr
      cases q2 : f ds with
      | ok d =>
        cases d with
        | lst xs =>
          rw [q2] at h3
          refine ⟨F1, ds, ok_nil ok1, hvs.noR nr, hn env cs ds cs2 q, ?_⟩
          rw [q2]
          intro F2 H2 as2 g ok2 p ys hp fp hH hy
          have ea : as2 = [] := List.eq_nil_of_length_eq_zero ok2.len
          subst ea
          obtain ⟨g3, ok3⟩ := gro_nil ok1 g ok2
          have np : p ∉ as1 := ok1.out hp
          have g4 : Gro F1 H1 as1 F2 H2 (as1 ++ [p]) := ⟨g3.ff, g3.fn, g3.hh, g3.hl, List.prefix_append _ _, fun a m => (List.mem_append.mp m).elim .inl fun z => .inr (by rw [List.mem_singleton.mp z]; exact hp)⟩
          have ok4 : Ok X.K F2 H2 (as1 ++ [p]) (cs2 ++ [xs]) := by
            refine ⟨ok3.fh, List.nodup_append.mpr ⟨ok3.nd, List.nodup_cons.mpr ⟨List.not_mem_nil, List.nodup_nil⟩, fun a ha b hb e => np (by rw [← List.mem_singleton.mp hb, ← e]; exact ha)⟩, by rw [List.length_append, List.length_append, ok3.len]; rfl, fun i a zs ha hz => ?_⟩
            by_cases hi : i < as1.length
            · rw [List.getElem?_append_left hi] at ha
              rw [List.getElem?_append_left (by rw [← ok3.len]; exact hi)] at hz
              obtain ⟨w1, ws, w2, w3⟩ := ok3.cell i a zs ha hz
              exact ⟨w1, ws, w2, w3.mono (Ext.refl _) (List.prefix_append _ _)⟩
            · rw [List.getElem?_append_right (Nat.le_of_not_lt hi)] at ha
              rw [List.getElem?_append_right (by rw [← ok3.len]; exact Nat.le_of_not_lt hi), ← ok3.len] at hz
              have e0 : i - as1.length = 0 := by
                cases q : i - as1.length with
                | zero => rfl
                | succ n =>
                  rw [q] at ha
                  simp at ha
              rw [e0] at ha hz
              have ea : p = a := by simpa using ha
              have ez : xs = zs := by simpa using hz
              subst ea ez
              exact ⟨fp, ys, hH, hy.mono (Ext.refl _) List.nil_prefix⟩
          refine h3 F2 H2 (as1 ++ [p]) g4 ok4 _ (.ref ?_)
          rw [List.getElem?_append_right (by rw [ok1.len]; exact Nat.le_refl _), ok1.len, Nat.sub_self]
          rfl
        | _ =>
          rw [q2] at h3
          exact spP_of_O (callP_core (hn env cs ds cs2 q) ok1 hvs nr (by rw [q2]; exact h3))
      | ex y =>
        rw [q2] at h3
        exact spP_of_O (callP_core (hn env cs ds cs2 q) ok1 hvs nr (by rw [q2]; exact h3))
      | no =>
        rw [q2] at h3
        exact False.elim h3
    · exact False.elim h3)
theorem gc_P {f : List D → Rp} {j : Nat} (Fn : Dp' X.prog X.w X.K X.mg X.base j x ps (spP X.K ct n f)) (hr : Room k X.A) (hj : j ≤ k) (tk : Takes X W) (hg : Gl X x) (hn : ∀ env cs ds cs', mas env cs = .ok ds cs' → ds.length = n)
    (ha : PA X (e :: es) (tA X.K ct W mas)) (hdb : (x == ("__debug__" : Str)) = false := by decide) (he : starEach (e :: es) X.env = (false, eval e X.env) :: starEach es X.env := by rfl) (hpl : (backTo pos (starEach es X.env)).any (·.1) = false := by rfl) :
    PE X (.Call (.Name x p) (e :: es) [] pos) (tD X.K ct W (xCallP f mas)) := by
  obtain ⟨fa, fd, hm, hk, hb, Fn⟩ := Fn
  exact ge_callP Fn (hr.mono hj) tk hg hm hk hb hn ha hdb he hpl
theorem gc_O {f : List D → Rp} {j : Nat} (Fn : Dp' X.prog X.w X.K X.mg X.base j x ps (spO X.K ct n f)) (hr : Room k X.A) (hj : j ≤ k) (tk : Takes X W) (hg : Gl X x) (hn : ∀ env cs ds cs', mas env cs = .ok ds cs' → ds.length = n)
    (ha : PA X (e :: es) (tA X.K ct W mas)) (hdb : (x == ("__debug__" : Str)) = false := by decide) (he : starEach (e :: es) X.env = (false, eval e X.env) :: starEach es X.env := by rfl) (hpl : (backTo pos (starEach es X.env)).any (·.1) = false := by rfl) :
    PE X (.Call (.Name x p) (e :: es) [] pos) (tD X.K ct W (xCallO f mas)) := by
  obtain ⟨fa, fd, hm, hk, hb, Fn⟩ := Fn
  exact ge_callO Fn (hr.mono hj) tk hg hm hk hb hn ha hdb he hpl
theorem gc_M {f : List D → M D} {j : Nat} (Fn : Dp' X.prog X.w X.K X.mg X.base j x ps (spM X.K ct n f)) (hr : Room k X.A) (hj : j ≤ k) (tk : Takes X W) (hg : Gl X x) (hn : ∀ env cs ds cs', mas env cs = .ok ds cs' → ds.length = n)
    (ha : PA X (e :: es) (tA X.K ct W mas)) (hdb : (x == ("__debug__" : Str)) = false := by decide) (he : starEach (e :: es) X.env = (false, eval e X.env) :: starEach es X.env := by rfl) (hpl : (backTo pos (starEach es X.env)).any (·.1) = false := by rfl) :
    PE X (.Call (.Name x p) (e :: es) [] pos) (tD X.K ct W (xCallM f mas)) := by
  obtain ⟨fa, fd, hm, hk, hb, Fn⟩ := Fn
  exact ge_callM Fn (hr.mono hj) tk hg hm hk hb hn ha hdb he hpl
/-- a module's constants -/
theorem ge_gint {i : Int} {x : Str} (hm : ∃ t, X.mg x = some (.int i t)) (hg : Gl X x) (hd : (x == ("__debug__" : Str)) = false := by decide) : PE X (.Name x p) (tD X.K ct W (xC (.int i))) := by
  obtain ⟨t, hm⟩ := hm
  exact ge_c (pe_glob (v := .int i) hg hm ⟨t, rfl⟩ hd) fun _ _ => .int i
theorem ge_gstr {i : Str} {x : Str} (hm : ∃ t, X.mg x = some (.str i t)) (hg : Gl X x) (hd : (x == ("__debug__" : Str)) = false := by decide) : PE X (.Name x p) (tD X.K ct W (xC (.str i))) := by
  obtain ⟨t, hm⟩ := hm
  exact ge_c (pe_glob (v := .str i) hg hm ⟨t, rfl⟩ hd) fun _ _ => .str i
/-- how many arguments -/
theorem an_nil : ∀ env cs ds cs', aNil env cs = .ok ds cs' → ds.length = 0 := fun _ _ _ _ h => by
  cases h
  rfl
theorem an_cons {m : En → M D} {ms : En → M (List D)} {n : Nat} (h : ∀ env cs ds cs', ms env cs = .ok ds cs' → ds.length = n) : ∀ env cs ds cs', aCons m ms env cs = .ok ds cs' → ds.length = n + 1 := fun env cs ds cs' e => by
  unfold aCons M.bnd at e
  cases q : m env cs with
  | ok d cs1 =>
    rw [q] at e
    dsimp only at e
    cases q2 : ms env cs1 with
    | ok es cs2 =>
      rw [q2] at e
      cases e
      exact congrArg (· + 1) (h env cs1 es _ q2)
    | ex y cs2 =>
      rw [q2] at e
      cases e
    | no =>
      rw [q2] at e
      cases e
  | ex y cs2 =>
    rw [q] at e
    cases e
  | no =>
    rw [q] at e
    cases e
end
/-! ### refusals -/
def sRaise (x : Exn) : En → M Fl := fun _ => M.thr x
inductive X4 where
  | lines | thing | kind | nonet
def X4.e : X4 → Exn
  | .lines => .lines
  | .thing => .thing
  | .kind => .kind
  | .nonet => .nonet
def Ct.at4 (ct : Ct) : X4 → Addr
  | .lines => ct.lines
  | .thing => ct.thing
  | .kind => ct.kind
  | .nonet => ct.nonet
theorem xrel4 {ct : Ct} {H : Hp} (y : X4) : XRel ct H y.e (.ref (ct.at4 y)) none := by cases y <;> exact ⟨rfl, rfl⟩
theorem gs_raise4 {X : Cx} {ct : Ct} {W : WX} (y : X4) {x m : Str} {j : Nat} {p p2 p3 pos : Pos} (hc : X.calm = true) (tk : Takes X W) (q : PySem.W.excIn X.K (ct.at4 y) He.veBase "ValueError.__new__" = true) (gC : X.mg x = some (.ref (ct.at4 y))) (kC : PySem.W.keepIn X.K (.ref (ct.at4 y)) = true) (r : Raises X (.ref (ct.at4 y))) (hg : Gl X x)
    (hdb : (x == ("__debug__" : Str)) = false := by decide) : PS X (.Raise (some (.Call (.Name x p) [.Constant (.str m) j p2] [] p3)) none pos) (tS X.K ct W (sRaise y.e)) := PS.imp (ps_raise hc tk (pmk_own PySem.F.excBase_ValueError q gC kC r hg hdb)) (by
  rintro D σ H ⟨F, as, env, cs, ok, sl, h⟩
  exact h (.ref (ct.at4 y)) none σ F H as rfl (Gro.refl _ _ _) ok (xrel4 y))
end G
/-! G6: defs that give a list of own new lists. -/
namespace G
open L2 PySem PySem.Spec PyProof.Rows
inductive Rp2 where
  | ok (L : List (List D)) | ex (x : Exn) | no
def up2 : Rp2 → M (List (List D))
  | .ok L => fun _ => .ok L L
  | .ex x => M.thr x
  | .no => M.no
def asP (f : List D → Rp2) (ds : List D) : Rp := match f ds with
  | .ok L => if L.all noRL = true then .ok (.lst (L.map .lst)) else .no
  | .ex x => .ex x
  | .no => .no
/-- the cells that a list names -/
def refsOf : List D → Option (List Nat)
  | [] => some []
  | .ref i :: r => (refsOf r).map (i :: ·)
  | _ :: _ => none
def getAll (cs : Cs) : List Nat → Option (List (List D))
  | [] => some []
  | i :: r => match cs[i]?, getAll cs r with
    | some xs, some ys => if noRL xs = true then some (xs :: ys) else none
    | _, _ => none
def nodupB : List Nat → Bool
  | [] => true
  | i :: r => !r.contains i && nodupB r
def own2 (cs : Cs) (skip : List Nat) (xs : List D) : Rp2 := match refsOf xs with
  | some is => if (nodupB (skip ++ is)) = true then (match getAll cs is with
    | some L => .ok L
    | none => .no) else .no
  | none => .no
def runO2 (c : En → M Fl) (k : Nat) (ds : List D) : Rp2 := match c (startE k ds) [] with
  | .ok (.rt (.lst xs)) cs => own2 cs [] xs
  | .ok (.rt (.ref i)) cs => (match cs[i]? with
    | some xs => own2 cs [i] xs
    | none => .no)
  | .ex x _ => .ex x
  | _ => .no
def oO2 (Q : VK) : List (List D) → Cs → Hp → Hp → List Addr → Prop := fun _ _ F' H' as' => ∀ a, F' a = some (.lst (as'.map V.ref)) → Q (.ref a) H'
def spO2 (K : PySem.W.Frag) (ct : Ct) (n : Nat) (f : List D → Rp2) : Sp := fun vs H Q E => ∃ F ds, Ok K F H [] [] ∧ DvL K F [] vs ds ∧ ds.length = n ∧ out K ct (fun c d _ H => E c d H) 0 F H [] (up2 (f ds) []) (oO2 Q)
section
variable {P : Program} {w : World} {K : PySem.W.Frag} {mg : Str → Option Value} {base : Heap} {ct : Ct} {F H : Hp} {as : List Addr} {cs : Cs}
theorem nodupB_ok : ∀ {is : List Nat}, nodupB is = true → is.Nodup
  | [], _ => List.nodup_nil
  | i :: r, h => by
    obtain ⟨h1, h2⟩ := Bool.and_eq_true_iff.mp (show (!r.contains i && nodupB r) = true from h)
    exact List.nodup_cons.mpr ⟨fun m => by simp [m] at h1, nodupB_ok h2⟩
theorem refsOf_map : ∀ {xs : List D} {is : List Nat}, refsOf xs = some is → xs = is.map D.ref
  | [], is, e => by
    cases e
    rfl
  | .ref i :: r, is, e => by
    have e2 : (refsOf r).map (i :: ·) = some is := e
    cases q : refsOf r with
    | none =>
      rw [q] at e2
      cases e2
    | some s =>
      rw [q] at e2
      cases e2
      rw [refsOf_map q]
      rfl
  | .non :: _, _, e | .bl _ :: _, _, e | .int _ :: _, _, e | .str _ :: _, _, e | .lst _ :: _, _, e | .tup _ :: _, _, e | .dic :: _, _, e | .scr _ :: _, _, e => by cases e
/-- the places of cells -/
theorem places (ok : Ok K F H as cs) : ∀ {is : List Nat} {L : List (List D)} {vs : List V}, DvL K F as vs (is.map D.ref) → getAll cs is = some L →
    ∃ ps : List Addr, vs = ps.map V.ref ∧ ps.length = is.length ∧ L.length = is.length ∧ (∀ (j : Nat) (p : Addr), ps[j]? = some p → ∃ i : Nat, is[j]? = some i ∧ as[i]? = some p) ∧
      ∀ (j : Nat) (p : Addr) (xs : List D), ps[j]? = some p → L[j]? = some xs → ∃ i : Nat, is[j]? = some i ∧ as[i]? = some p ∧ cs[i]? = some xs ∧ noRL xs = true
  | [], L, _, h, e => by
    cases e
    cases h
    exact ⟨[], rfl, rfl, rfl, fun _ _ z => by simp at z, fun _ _ _ z => by simp at z⟩
  | i :: r, L, _, h, e => by
    have e2 : (match cs[i]?, getAll cs r with
      | some xs, some ys => if noRL xs = true then some (xs :: ys) else none
      | _, _ => none) = some L := e
    split at e2
    · rename_i xs ys e3 e4
      split at e2
      · rename_i nr
        cases e2
        cases h with
        | cons h1 h2 =>
          cases h1 with
          | ref ha =>
            obtain ⟨ps, rfl, l1, l2, h3, h4⟩ := places ok h2 e4
            refine ⟨_ :: ps, rfl, congrArg (· + 1) l1, congrArg (· + 1) l2, fun j p hp => ?_, fun j p zs hp hz => ?_⟩
            · cases j with
              | zero =>
                simp at hp
                subst hp
                exact ⟨i, rfl, ha⟩
              | succ j => exact h3 j p (by simpa using hp)
            · cases j with
              | zero =>
                simp at hp hz
                subst hp hz
                exact ⟨i, rfl, ha, e3, nr⟩
              | succ j => exact h4 j p zs (by simpa using hp) (by simpa using hz)
      · cases e2
    · cases e2
theorem keep_ok {F0 H0 : Hp} {is : List Nat} {L : List (List D)} {vs : List V} (ok : Ok K F H as cs) (g : Gro F0 H0 [] F H as) (hv : DvL K F as vs (is.map D.ref)) (hn : is.Nodup) (e : getAll cs is = some L) :
    ∃ ps : List Addr, vs = ps.map V.ref ∧ Gro F0 H0 [] F H ps ∧ Ok K F H ps L ∧ ∀ p ∈ ps, ∃ i ∈ is, as[i]? = some p := by
  obtain ⟨ps, e1, l1, l2, h3, h4⟩ := places ok hv e
  have mem : ∀ p ∈ ps, ∃ i ∈ is, as[i]? = some p := fun p hp => by
    obtain ⟨j, hj⟩ := List.mem_iff_getElem?.mp hp
    obtain ⟨i, hi, ha⟩ := h3 j p hj
    exact ⟨i, List.mem_of_getElem? hi, ha⟩
  refine ⟨ps, e1, ⟨g.ff, g.fn, g.hh, g.hl, List.nil_prefix, fun p hp => ?_⟩, ⟨ok.fh, ?_, by rw [l1, l2], fun j p xs hp hx => ?_⟩, mem⟩
  · obtain ⟨i, _, ha⟩ := mem p hp
    exact g.an p (List.mem_of_getElem? ha)
  · refine List.pairwise_iff_getElem.mpr fun a b ha hb hab => fun q => ?_
    obtain ⟨i, hi, ha1⟩ := h3 a _ (List.getElem?_eq_getElem ha)
    obtain ⟨j, hj, ha2⟩ := h3 b _ (List.getElem?_eq_getElem hb)
    have eij : i = j := by
      obtain ⟨z1, y1⟩ := List.getElem?_eq_some_iff.mp ha1
      obtain ⟨z2, y2⟩ := List.getElem?_eq_some_iff.mp ha2
      exact (List.getElem_inj ok.nd).mp (y1.trans (q.trans y2.symm))
    subst eij
    obtain ⟨z1, y1⟩ := List.getElem?_eq_some_iff.mp hi
    obtain ⟨z2, y2⟩ := List.getElem?_eq_some_iff.mp hj
    exact Nat.ne_of_lt hab ((List.getElem_inj hn).mp (y1.trans y2.symm))
  · obtain ⟨i, _, ha, hc, nr⟩ := h4 j p xs hp hx
    obtain ⟨w1, ys, w2, w3⟩ := ok.cell i p xs ha hc
    exact ⟨w1, ys, w2, (w3.noR nr).mono (Ext.refl _) List.nil_prefix⟩
theorem def_O2 {x : Str} {st : Stmt} {f : Addr} {fd : FuncData} {N ps : List Str} {k n : Nat} {c : En → M Fl} (F : FunG K x st f fd) (S : FnScope N ps (defScope st)) (hn : ps.length = n)
    (body : ∀ (cdv : Value) (A : Around) (outer : List Env) (s : Shared) (H : Hp) (E : XK), Room k (A.deeper (envOfC x (defScope st) s.heap.objs.size f cdv)) → PSs (cxG P w K mg base N x st f cdv A outer s H E) (defBody st) (tS K ct (fun c d _ H => E c d H) c)) :
    FnP P w K mg base (k + 1) f fd ps (spO2 K ct n (runO2 c N.length)) := by
  refine F.ok S (fun vs H Q E h => ?_) (fun cdv A outer s H vs Q E hr h => ⟨_, body cdv A outer s H E hr, ?_⟩)
  · obtain ⟨_, _, _, hv, hl, _⟩ := h
    rw [hv.length, hl, hn]
  · obtain ⟨F', ds, ok, hv, hl, h⟩ := h
    refine ⟨F', [], startE N.length ds, [], ok, start_of hv, ?_⟩
    unfold runO2 at h
    cases q : c (startE N.length ds) [] with
    | no =>
      rw [q] at h
      exact h
    | ex e cs =>
      rw [q] at h
      intro c' d σ' F1 H1 as1 _ g ok1 hx
      exact h c' d [] (frz F1 H1 as1) H1 [] rfl (gro_frz ok1 g) (ok_frz ok1) hx
    | ok fl cs =>
      rw [q] at h
      cases fl with
      | nx e => exact False.elim h
      | bk e => exact False.elim h
      | ct e => exact False.elim h
      | rt d =>
        intro F1 H1 as1 g ok1 v dv
        cases d with
        | lst xs =>
          have h2 : out K ct (fun c d _ H => E c d H) 0 F' H [] (up2 (own2 cs [] xs) []) (oO2 Q) := h
          unfold own2 at h2
          split at h2
          · rename_i is e1
            split at h2
            · rename_i nd
              split at h2
              · rename_i L e2
                cases dv with
                | lst hf hl =>
                  rw [refsOf_map e1] at hl
                  obtain ⟨ps2, rfl, g2, ok2, _⟩ := keep_ok ok1 g hl (nodupB_ok nd) e2
                  exact h2 F1 H1 ps2 g2 ok2 _ hf
              · exact False.elim h2
            · exact False.elim h2
          · exact False.elim h2
        | ref i =>
          have h2 : out K ct (fun c d _ H => E c d H) 0 F' H [] (up2 (match cs[i]? with
            | some xs => own2 cs [i] xs
            | none => .no) []) (oO2 Q) := h
          cases hc : cs[i]? with
          | none =>
            rw [hc] at h2
            exact False.elim h2
          | some xs =>
            rw [hc] at h2
            have h2 : out K ct (fun c d _ H => E c d H) 0 F' H [] (up2 (own2 cs [i] xs) []) (oO2 Q) := h2
            unfold own2 at h2
            split at h2
            · rename_i is e1
              split at h2
              · rename_i nd
                split at h2
                · rename_i L e2
                  cases dv with
                  | ref ha =>
                    rename_i a
                    obtain ⟨fn, ys, hH, hl⟩ := ok1.cell i _ xs ha hc
                    rw [refsOf_map e1] at hl
                    obtain ⟨hni, hnd⟩ := List.nodup_cons.mp (nodupB_ok nd)
                    obtain ⟨ps2, rfl, g2, ok2, hm⟩ := keep_ok ok1 g hl hnd e2
                    have nm : a ∉ ps2 := fun m => by
                      obtain ⟨j, hj, hb⟩ := hm a m
                      obtain ⟨z1, y1⟩ := List.getElem?_eq_some_iff.mp ha
                      obtain ⟨z2, y2⟩ := List.getElem?_eq_some_iff.mp hb
                      exact hni (by rw [(List.getElem_inj ok1.nd).mp (y1.trans y2.symm)]; exact hj)
                    have g3 : Gro F' H [] (upd F1 a (.lst (ps2.map V.ref))) H1 ps2 := ⟨g2.ff.trans (Ext.new fn), fun p hp => by
                      rw [upd_ne fun e => (g.an a (List.mem_of_getElem? ha)).elim (fun z => nomatch z) fun z => hp (by rw [e]; exact z)]
                      exact g2.fn p hp, g2.hh, g2.hl, g2.ap, g2.an⟩
                    have ok3 : Ok K (upd F1 a (.lst (ps2.map V.ref))) H1 ps2 L := ⟨fun b o e => by
                      by_cases q : b = a
                      · rw [q, upd_same] at e
                        cases e
                        rw [q]
                        exact hH
                      · rw [upd_ne q] at e
                        exact ok2.fh b o e, ok2.nd, ok2.len, fun j p zs hp hz => by
                        obtain ⟨w1, ws, w2, w3⟩ := ok2.cell j p zs hp hz
                        exact ⟨by rw [upd_ne fun e => nm (by rw [← e]; exact List.mem_of_getElem? hp)]; exact w1, ws, w2, w3.mono (Ext.new fn) List.prefix_rfl⟩⟩
                    exact h2 _ H1 ps2 g3 ok3 a upd_same
                · exact False.elim h2
              · exact False.elim h2
            · exact False.elim h2
        | _ => exact False.elim h
theorem up_lsts {as : List Addr} {L : List (List D)} (ok : Ok K F H as L) (hn : ∀ xs ∈ L, noRL xs = true) : DvL K (frz F H as) [] (as.map V.ref) (L.map D.lst) := by
  have gen : ∀ (ps : List Addr) (M : List (List D)), ps.length = M.length → (∀ (j : Nat) (p : Addr) (xs : List D), ps[j]? = some p → M[j]? = some xs → p ∈ as ∧ noRL xs = true ∧ ∃ ys, H p = some (.lst ys) ∧ DvL K F as ys xs) → DvL K (frz F H as) [] (ps.map V.ref) (M.map D.lst) := fun ps => by
    induction ps with
    | nil =>
      intro M e _
      cases M with
      | nil => exact .nil
      | cons _ _ => cases e
    | cons p r ih =>
      intro M e h
      cases M with
      | nil => cases e
      | cons xs M =>
        obtain ⟨h1, h2, ys, h3, h4⟩ := h 0 p xs rfl rfl
        refine .cons (.lst (by rw [frz_in h1]; exact h3) ((h4.noR h2).mono (ext_frz ok) List.prefix_rfl)) (ih M (by simpa using e) fun j q zs hq hz => h (j + 1) q zs (by simpa using hq) (by simpa using hz))
  refine gen as L ok.len fun j p xs hp hx => ?_
  obtain ⟨_, ys, w2, w3⟩ := ok.cell j p xs hp hx
  exact ⟨List.mem_of_getElem? hp, hn xs (List.mem_of_getElem? hx), ys, w2, w3⟩
theorem spP_of_O2 {n : Nat} {f : List D → Rp2} {vs : List V} {H : Hp} {Q : VK} {E : XK} (h : spP K ct n (asP f) vs H Q E) : spO2 K ct n f vs H Q E := by
  obtain ⟨F, ds, ok, hv, hl, h⟩ := h
  refine ⟨F, ds, ok, hv, hl, ?_⟩
  unfold asP at h
  cases q : f ds with
  | no =>
    rw [q] at h
    exact h
  | ex x =>
    rw [q] at h
    exact fun c d σ' F1 H1 as1 l g ok1 hx => by
      exact h c d σ' (frz F1 H1 as1) H1 [] l (gro_frz ok1 g) (ok_frz ok1) hx
  | ok L =>
    rw [q] at h
    intro F1 H1 as1 g ok1 a ha
    have h2 : out K ct (fun c d _ H => E c d H) 0 F H [] (up (if L.all noRL = true then Rp.ok (.lst (L.map .lst)) else .no) []) (oD K Q) := h
    by_cases nr : L.all noRL = true
    · rw [if_pos nr] at h2
      exact h2 (frz F1 H1 as1) H1 [] (gro_frz ok1 g) (ok_frz ok1) _ (.lst (ext_frz ok1 _ _ ha) (up_lsts ok1 (List.all_eq_true.mp nr)))
    · rw [if_neg nr] at h2
      exact False.elim h2
theorem Dp'.ofO2 {k n : Nat} {x : Str} {ps : List Str} {f : List D → Rp2} (h : Dp' P w K mg base k x ps (spO2 K ct n f)) : Dp' P w K mg base k x ps (spP K ct n (asP f)) := by
  obtain ⟨fa, fd, a, b, c, d⟩ := h
  exact ⟨fa, fd, a, b, c, d.imp fun _ _ _ _ => spP_of_O2⟩
end
/-- the new cells' names -/
def refsN (n m : Nat) : List D := (List.range m).map fun j => .ref (n + j)
def xCallO2 (f : List D → Rp2) (a : En → M (List D)) : En → M D := fun env => M.bnd (a env) fun ds cs => if noRL ds = true then (match f ds with
  | .ok L => if L.all noRL = true then .ok (.lst (refsN cs.length L.length)) (cs ++ L) else .no
  | .ex x => .ex x cs
  | .no => .no) else .no
section
variable {X : Cx} {ct : Ct} {W : WX} {k n : Nat} {fa : Addr} {fd : FuncData} {ps : List Str} {x : Str} {p pos : Pos} {e : Expr} {es : List Expr} {mas : En → M (List D)}
theorem refsN_dv {K : PySem.W.Frag} {F : Hp} {as : List Addr} {n : Nat} : ∀ (qs : List Addr), (∀ (j : Nat) (p : Addr), qs[j]? = some p → as[n + j]? = some p) → DvL K F as (qs.map V.ref) (refsN n qs.length) := fun qs h => by
  have gen : ∀ (rs : List Addr) (m : Nat), (∀ (j : Nat) (p : Addr), rs[j]? = some p → as[n + (m + j)]? = some p) → DvL K F as (rs.map V.ref) ((List.range' m rs.length).map fun j => D.ref (n + j)) := fun rs => by
    induction rs with
    | nil => exact fun m _ => .nil
    | cons r rs ih => exact fun m h => .cons (.ref (h 0 r rfl)) (ih (m + 1) fun j p hp => by
        have := h (j + 1) p (by simpa using hp)
        rw [← this]
        congr 1
        omega)
  unfold refsN
  rw [List.range_eq_range']
  exact gen qs 0 fun j p hp => by rw [Nat.zero_add]; exact h j p hp
theorem ok_join {K : PySem.W.Frag} {F H F' H' : Hp} {as ps : List Addr} {cs L : Cs} (ok : Ok K F H as cs) (g : Gro F H [] F' H' ps) (ok' : Ok K F' H' ps L) (hn : ∀ xs ∈ L, noRL xs = true) : Gro F H as F' H' (as ++ ps) ∧ Ok K F' H' (as ++ ps) (cs ++ L) := by
  have new : ∀ p ∈ ps, H p = none := fun p hp => (g.an p hp).elim (fun z => nomatch z) id
  refine ⟨⟨g.ff, g.fn, fun p o h _ => g.hh p o h (by simp), g.hl, List.prefix_append _ _, fun p m => (List.mem_append.mp m).elim .inl fun z => .inr (new p z)⟩, ⟨ok'.fh, ?_, by rw [List.length_append, List.length_append, ok.len, ok'.len], fun i a xs ha hx => ?_⟩⟩
  · exact List.nodup_append.mpr ⟨ok.nd, ok'.nd, fun a ha b hb e => ok.out (new b hb) (by rw [← e]; exact ha)⟩
  · by_cases hi : i < as.length
    · rw [List.getElem?_append_left hi] at ha
      rw [List.getElem?_append_left (by rw [← ok.len]; exact hi)] at hx
      obtain ⟨h1, ys, h2, h3⟩ := ok.cell i a xs ha hx
      exact ⟨by rw [g.fn a (by rw [h2]; exact fun z => nomatch z)]; exact h1, ys, g.hh a _ h2 (by simp), h3.mono g.ff (List.prefix_append _ _)⟩
    · rw [List.getElem?_append_right (Nat.le_of_not_lt hi)] at ha
      rw [List.getElem?_append_right (by rw [← ok.len]; exact Nat.le_of_not_lt hi), ← ok.len] at hx
      obtain ⟨h1, ys, h2, h3⟩ := ok'.cell _ a xs ha hx
      exact ⟨h1, ys, h2, (h3.noR (hn xs (List.mem_of_getElem? hx))).mono (Ext.refl _) List.nil_prefix⟩
theorem gc_O2 {f : List D → Rp2} {j : Nat} (Fn : Dp' X.prog X.w X.K X.mg X.base j x ps (spO2 X.K ct n f)) (hr : Room k X.A) (hj : j ≤ k) (tk : Takes X W) (hg : Gl X x) (hn : ∀ env cs ds cs', mas env cs = .ok ds cs' → ds.length = n)
    (ha : PA X (e :: es) (tA X.K ct W mas)) (hdb : (x == ("__debug__" : Str)) = false := by decide) (he : starEach (e :: es) X.env = (false, eval e X.env) :: starEach es X.env := by rfl) (hpl : (backTo pos (starEach es X.env)).any (·.1) = false := by rfl) :
    PE X (.Call (.Name x p) (e :: es) [] pos) (tD X.K ct W (xCallO2 f mas)) := by
  obtain ⟨fa, fd, hm, hk, hb, Fn⟩ := Fn
  refine PE.imp (pe_callS Fn (hr.mono hj) hg hm hk hb (fun σ => passAt tk σ) ha hdb he hpl) ?_
  rintro σ H Q ⟨F, as, env, cs, ok, sl, h⟩
  refine ⟨F, as, env, cs, ok, sl, ?_⟩
  have h2 := out_bnd h
  cases q : mas env cs with
  | no =>
    rw [q] at h2
    exact h2
  | ex y cs2 =>
    rw [q] at h2
    exact h2
  | ok ds cs2 =>
    rw [q] at h2
    intro F1 H1 as1 g1 ok1 vs hvs
    have h3 : out X.K ct W σ.length F1 H1 as1 (if noRL ds = true then (match f ds with
      | .ok L => if L.all noRL = true then .ok (.lst (refsN cs2.length L.length)) (cs2 ++ L) else .no
      | .ex x => .ex x cs2
      | .no => .no) else .no) (oD X.K Q) := h2 F1 H1 as1 g1 ok1
    split at h3
    · rename_i nr
      refine ⟨F1, ds, ok_nil ok1, hvs.noR nr, hn env cs ds cs2 q, ?_⟩
      cases q2 : f ds with
      | no =>
        rw [q2] at h3
        exact False.elim h3
      | ex y =>
        rw [q2] at h3
        intro c d σ' F2 H2 as2 _ g ok2 hx
        have ea : as2 = [] := List.eq_nil_of_length_eq_zero ok2.len
        subst ea
        obtain ⟨g3, ok3⟩ := gro_nil ok1 g ok2
        exact h3 c d σ F2 H2 as1 rfl g3 ok3 hx
      | ok L =>
        rw [q2] at h3
        dsimp only at h3
        split at h3
        · rename_i nl
          intro F2 H2 as2 g ok2 a ha
          obtain ⟨g3, ok3⟩ := ok_join ok1 g ok2 (List.all_eq_true.mp nl)
          refine h3 F2 H2 (as1 ++ as2) g3 ok3 _ (.lst ha ?_)
          have := refsN_dv (K := X.K) (F := F2) (as := as1 ++ as2) (n := cs2.length) as2 fun j p hp => by
            rw [List.getElem?_append_right (by rw [ok1.len]; omega), ok1.len, Nat.add_sub_cancel_left]
            exact hp
          rw [ok2.len] at this
          exact this
        · exact False.elim h3
    · exact False.elim h3
end
end G
namespace G
open L2 PySem PySem.Spec PyProof.Rows
theorem fn_no2 {P : Program} {w : World} {K : PySem.W.Frag} {mg : Str → Option Value} {base : Heap} {ct : Ct} {f : Addr} {fd : FuncData} {ps : List Str} {k n : Nat} (hn : ps.length = n) : FnP P w K mg base k f fd ps (spO2 K ct n fun _ => .no) := ⟨fun vs H Q E h => by
  obtain ⟨_, _, _, hv, hl, _⟩ := h
  rw [hv.length, hl, hn], fun _ _ _ _ _ _ _ _ _ _ _ _ _ h => by
  obtain ⟨_, _, _, _, _, h⟩ := h
  exact False.elim h⟩
end G
/-! G7: try, caught errors asked for their classes; the head's Hook with facts of classes. -/
namespace G
open L2 PySem PySem.Spec PyProof.Rows
/-! ### the classes -/
def X4.eqb : X4 → X4 → Bool
  | .lines, .lines | .thing, .thing | .kind, .kind | .nonet, .nonet => true
  | _, _ => false
structure Xt (K : PySem.W.Frag) (mg : Str → Option Value) (ct : Ct) (ne : Addr) : Prop where
  ex : ∀ y : X4, ExcC K (ct.at4 y)
  is4 : ∀ y z : X4, PySem.W.kitOne K (.ref (ct.at4 y)) (.ref (ct.at4 z)) = some (y.eqb z)
  isN : ∀ y : X4, PySem.W.kitOne K (.ref (ct.at4 y)) (.ref ct.net) = some false
  isV : ∀ y : X4, PySem.W.kitOne K (.ref (ct.at4 y)) (.type "ValueError") = some true
  em : ∀ y : X4, PySem.W.exmOne K (.ref (ct.at4 y)) (.ref ne) = some true
  mgE : mg "NetError" = some (.ref ne)
  mgN : mg "BadNet" = some (.ref ct.net)
  mgV : mg "ValueError" = none
def ctOf (K : PySem.W.Frag) : Ct := ⟨He.ga K "BadLines", He.ga K "BadThing", He.ga K "BadKind", He.ga K "NoNet", He.ga K "BadNet"⟩
def exCB (K : PySem.W.Frag) (D : Addr) : Bool := decide (PySem.W.findIn K (.ref D) "__getattribute__" = some (some (.builtin "BaseException.__getattribute__"))) && (decide (PySem.W.findIn K (.ref D) "__getattr__" = some none) &&
  (decide (PySem.W.subIn K (.ref D) (.type "BaseException") = some true) && (PySem.W.hasDictIn K D && (decide (PySem.W.findIn K (.ref D) "__class__" = some (some (.builtin "object.__class__"))) &&
  (decide (PySem.W.specialIn K (.builtin "object.__class__") "__get__" = some (some (.builtin "getset_descriptor.__get__"))) && (decide (PySem.W.takesIn K (.builtin "object.__class__") = some true) && decide (PySem.W.mroIn K D (.type "object") = some true)))))))
theorem exCB_ok {K : PySem.W.Frag} {D : Addr} (h : exCB K D = true) : ExcC K D := by
  obtain ⟨h1, h⟩ := He.ba h
  obtain ⟨h2, h⟩ := He.ba h
  obtain ⟨h3, h⟩ := He.ba h
  obtain ⟨h4, h⟩ := He.ba h
  obtain ⟨h5, h⟩ := He.ba h
  obtain ⟨h6, h⟩ := He.ba h
  obtain ⟨h7, h8⟩ := He.ba h
  exact ⟨of_decide_eq_true h1, of_decide_eq_true h2, of_decide_eq_true h3, h4, of_decide_eq_true h5, of_decide_eq_true h6, of_decide_eq_true h7, of_decide_eq_true h8⟩
def x4s : List X4 := [.lines, .thing, .kind, .nonet]
theorem x4s_all {p : X4 → Bool} (h : x4s.all p = true) (y : X4) : p y = true := by
  have := List.all_eq_true.mp h y
  cases y <;> exact this (by simp [x4s])
def xtY (K : PySem.W.Frag) (y : X4) : Bool :=
  let ct := ctOf K
  exCB K (ct.at4 y) && ((x4s.all fun z => decide (PySem.W.kitOne K (.ref (ct.at4 y)) (.ref (ct.at4 z)) = some (y.eqb z))) &&
    (decide (PySem.W.kitOne K (.ref (ct.at4 y)) (.ref ct.net) = some false) && (decide (PySem.W.kitOne K (.ref (ct.at4 y)) (.type "ValueError") = some true) && decide (PySem.W.exmOne K (.ref (ct.at4 y)) (.ref (He.ga K "NetError")) = some true))))
def xtB (K : PySem.W.Frag) : Bool := x4s.all (xtY K)
theorem xtB_ok {K : PySem.W.Frag} {h : Heap} {mg : Str → Option Value} (X : K.In h) (Gn : h.Ns mainGlobals mg) (c1 : (He.Fa.glo "NetError").ok K = true) (c2 : (He.Fa.glo "BadNet").ok K = true) (c3 : (He.Fa.free "ValueError").ok K = true) (h : xtB K = true) : Xt K mg (ctOf K) (He.ga K "NetError") := by
  have key : ∀ y, xtY K y = true := fun y => x4s_all h y
  refine ⟨fun y => ?_, fun y z => ?_, fun y => ?_, fun y => ?_, fun y => ?_, He.glo_ok X Gn c1, He.glo_ok X Gn c2, He.free_ok X Gn c3⟩
  · exact exCB_ok (He.ba (key y)).1
  · exact of_decide_eq_true (x4s_all (He.ba (He.ba (key y)).2).1 z)
  · exact of_decide_eq_true (He.ba (He.ba (He.ba (key y)).2).2).1
  · exact of_decide_eq_true (He.ba (He.ba (He.ba (He.ba (key y)).2).2).2).1
  · exact of_decide_eq_true (He.ba (He.ba (He.ba (He.ba (key y)).2).2).2).2
/-! ### the Hook with one more fact -/
abbrev AlX : Type := He.AlD × Bool
def obsX (fa : List He.Fa) (fn : List He.DefD) (ex : PySem.W.Frag → Bool) (K : PySem.W.Frag) : AlX := (He.obsD fa fn K, ex K)
def obsXG (n : Nat) (fa : List He.Fa) (fn : List He.DefD) (ex : PySem.W.Frag → Bool) (g : Addr → Option Obj) : AlX := obsX fa fn ex (He.frG g (He.asD g n))
def hookX (n : Nat) (fa : List He.Fa) (fn : List He.DefD) (ex : PySem.W.Frag → Bool) : PySem.W.Hook where
  α := AlX
  obs := fun s => obsXG n fa fn ex s.heap.get?
  val := fun _ => (He.valD fn, true)
  says := fun _ h => ∃ K : PySem.W.Frag, K.In h ∧ He.SaysD fa fn K ∧ ex K = true
  of := fun _ _ e => ⟨_, He.frG_in, congrArg (fun z : AlX => z.1) e, congrArg (fun z : AlX => z.2) e⟩
  keeps := fun _ _ _ ⟨K, hK, c⟩ k => ⟨K, PySem.W.Frag.In.keeps hK k, c⟩
theorem obsXG_eq {n : Nat} {fa : List He.Fa} {fn : List He.DefD} {ex : PySem.W.Frag → Bool} {g : Addr → Option Obj} {s : Shared} (h : ∀ a, g a = s.heap.get? a) : obsXG n fa fn ex g = (hookX n fa fn ex).obs s := by
  have e : g = s.heap.get? := funext h
  rw [e] <;> rfl
/-! ### asked in a suite -/
def tEb (i : Nat) (a : Addr) (b : Bool) : TE := fun σ H Q => σ[i]? = some (some (.ref a)) ∧ Q (.bl b) H
def tTb (i : Nat) (a : Addr) (b : Bool) : TT := fun σ H Q => σ[i]? = some (some (.ref a)) ∧ Q b H
def tSb (i : Nat) (a : Addr) (b : Bool) : TS := fun E σ H => σ[i]? = some (some (.ref a)) ∧ E.rt (.bl b) H
section
variable {X : Cx} {ct : Ct} {ne a D c : Addr} {oe : Obj} {pn : List (Addr × Obj)} {e : Expr} {x : Str} {p p2 pos : Pos} {i : Nat} {b b' : Bool}
theorem pe_isOwn (C : ExcC X.K D) (hz : Zc (.ref D) none oe) (hf : ∃ vs, oe.data = .fields vs) (hI : X.mg "isinstance" = none) (hm : X.mg x = some (.ref c)) (k : PySem.W.kitOne X.K (.ref D) (.ref c) = some b) (he : PE (X.suite a ((a, oe) :: pn)) e (tVar i))
    (hgI : Gl (X.suite a ((a, oe) :: pn)) "isinstance") (hg : Gl (X.suite a ((a, oe) :: pn)) x) (hd : (x == ("__debug__" : Str)) = false := by decide)
    (h1 : starEach [e, .Name x p2] X.env = (false, eval e X.env) :: starEach [.Name x p2] X.env := by rfl) (h2 : starEach [.Name x p2] X.env = (false, eval (.Name x p2) X.env) :: starEach [] X.env := by rfl) (hpl : (backTo pos (starEach [.Name x p2] X.env)).any (·.1) = false := by rfl) :
    PE (X.suite a ((a, oe) :: pn)) (.Call (.Name "isinstance" p) [e, .Name x p2] [] pos) (tEb i a b) := PE.imp (pe_callB (call_isE C hz hf) hgI hI (by decide +kernel) (pa_cons he (pa_cons (pe_glob (v := .ref c) hg hm rfl hd) pa_nil h2) h1) (by decide) (by decide) h1 hpl) (by
  rintro σ H Q ⟨h1, h2⟩
  exact ⟨_, h1, .ref c, .ref c, b, rfl, fun _ r => r, k, h2⟩)
theorem pe_isVal (C : ExcC X.K D) (hz : Zc (.ref D) none oe) (hf : ∃ vs, oe.data = .fields vs) (hI : X.mg "isinstance" = none) (hm : X.mg "ValueError" = none) (k : PySem.W.kitOne X.K (.ref D) (.type "ValueError") = some b) (he : PE (X.suite a ((a, oe) :: pn)) e (tVar i))
    (hgI : Gl (X.suite a ((a, oe) :: pn)) "isinstance") (hg : Gl (X.suite a ((a, oe) :: pn)) "ValueError")
    (h1 : starEach [e, .Name "ValueError" p2] X.env = (false, eval e X.env) :: starEach [.Name "ValueError" p2] X.env := by rfl) (h2 : starEach [.Name "ValueError" p2] X.env = (false, eval (.Name "ValueError" p2) X.env) :: starEach [] X.env := by rfl) (hpl : (backTo pos (starEach [.Name "ValueError" p2] X.env)).any (·.1) = false := by rfl) :
    PE (X.suite a ((a, oe) :: pn)) (.Call (.Name "isinstance" p) [e, .Name "ValueError" p2] [] pos) (tEb i a b) := PE.imp (pe_callB (call_isE C hz hf) hgI hI (by decide +kernel) (pa_cons he (pa_cons (pe_bltn (v := .ty "ValueError") hg hm (by decide +kernel) rfl) pa_nil h2) h1) (by decide) (by decide) h1 hpl) (by
  rintro σ H Q ⟨h1, h2⟩
  exact ⟨_, h1, .ty "ValueError", .type "ValueError", b, rfl, fun _ r => r, k, h2⟩)
variable {es : List Expr} {e2 : Expr}
theorem pt_b (h : PE X e (tEb i a b)) (he : ∀ whole, isTrue e X.env whole = (do let v ← whole; standAt e.pos; holding [v] (truthy v)) := by intro _; rfl) : PT X e (tTb i a b) := PT.imp (pt_val h he) (by
  rintro σ H Q ⟨h1, h2⟩
  exact ⟨h1, b, rfl, h2⟩)
theorem pw_orF1 (h : PT X e (tTb i a b)) : PW X (.BoolOp .Or [e] pos) (tTb i a b) := pw_or1 h
theorem pw_orF (h : PT X e (tTb i a false)) (h2 : PW X (.BoolOp .Or (e2 :: es) pos) (tTb i a b)) : PW X (.BoolOp .Or (e :: e2 :: es) pos) (tTb i a b) := PW.imp (pw_or h h2) (by
  rintro σ H Q ⟨h1, h2⟩
  exact ⟨h1, h1, h2⟩)
theorem pe_andT1 {op} (h : PE X e (tEb i a b)) : PE X (.BoolOp op [e] pos) (tEb i a b) := pe_one h
theorem pe_andT (h : PE X e (tEb i a true)) (h2 : PE X (.BoolOp .And (e2 :: es) pos) (tEb i a b)) : PE X (.BoolOp .And (e :: e2 :: es) pos) (tEb i a b) := PE.imp (pe_and h h2) (by
  rintro σ H Q ⟨h1, h2⟩
  exact ⟨h1, true, rfl, h1, h2⟩)
theorem pss_ifF {body : List Stmt} {rest : List Stmt} {u : TS} (h : PT X e (tTb i a false)) (hb : PSs X body u) (hr : PSs X rest (tSb i a b)) : PSs X (.If e body [] pos :: rest) (tSb i a b) := PSs.imp (pss_cons (ps_if h hb pss_nil) hr) (by
  rintro E σ H ⟨h1, h2⟩
  exact ⟨h1, h1, h2⟩)
theorem pss_retB (h : PE X e (tEb i a b)) : PSs X [.Return (some e) pos] (tSb i a b) := PSs.imp (pss_one (ps_ret h)) fun _ _ _ z => z
end
/-! ### try: body, except NetError as e: a truth -/
def sTryB (i : Nat) (body : En → M Fl) (g : X4 → Option Bool) : En → M Fl := fun env cs => if i < env.length then (match body env cs with
  | .ok f cs' => .ok f cs'
  | .ex .lines cs' => (match g .lines with
    | some b => .ok (.rt (.bl b)) cs'
    | none => .no)
  | .ex .thing cs' => (match g .thing with
    | some b => .ok (.rt (.bl b)) cs'
    | none => .no)
  | .ex .kind cs' => (match g .kind with
    | some b => .ok (.rt (.bl b)) cs'
    | none => .no)
  | .ex .nonet cs' => (match g .nonet with
    | some b => .ok (.rt (.bl b)) cs'
    | none => .no)
  | _ => .no) else .no
theorem sTryB4 (i : Nat) (body : En → M Fl) (g : X4 → Option Bool) (env : En) (cs cs' : Cs) (y : X4) (hi : i < env.length) (h : body env cs = .ex y.e cs') : sTryB i body g env cs = (match g y with
    | some b => .ok (.rt (.bl b)) cs'
    | none => .no) := by
  unfold sTryB
  rw [if_pos hi, h]
  cases y <;> rfl
theorem gs_tryB {X : Cx} {ct : Ct} {W : WX} {ne : Addr} {i : Nat} {n : Str} {mb : En → M Fl} {g : X4 → Option Bool} {body suite : List Stmt} {b₀ : Stmt} {np pos pos' : Pos} (T : Xt X.K X.mg ct ne) (hs : X.stack = X.env :: X.outer) (hf : X.env.frame = some X.env.locals) (hN : X.N.Nodup) (hi : X.N[i]? = some n) (hln : X.env.kindOf n = some .local) (hg : Gl X "NetError") (tk : Takes X W)
    (hb : ∀ (W : WX) (pn : List (Addr × Obj)) (xe : Value → Shared → Prop), Takes (X.tr pn xe) W → PassesOwn (model X.prog X.w) X.A X.env xe → PSs (X.tr pn xe) body (tS X.K ct W mb))
    (hsu : ∀ (y : X4) (b : Bool), g y = some b → ∀ (a : Addr) (oe : Obj) (pn : List (Addr × Obj)), Zc (.ref (ct.at4 y)) none oe → (∃ vs, oe.data = .fields vs) → PSs (X.suite a ((a, oe) :: pn)) (b₀ :: suite) (tSb i a b)) :
    PS X (.Try body [.ExceptHandler (some (.Name "NetError" np)) (some n) (b₀ :: suite) pos'] [] [] pos) (tS X.K ct W (sTryB i mb g)) := by
  refine PS.imp (ps_try_as (i := i) (c := .ref ne) (Wout := W) (ts := fun a cls d => fun E σ H => ∃ y b, g y = some b ∧ cls = .ref (ct.at4 y) ∧ d = none ∧ σ[i]? = some (some (.ref a)) ∧ E.rt (.bl b) H) hs hf hN hi hln ⟨hg, by decide, .inl T.mgE⟩ tk hb fun a oe cls d pn hz hfl => ?_) ?_
  · refine ⟨fun pins s σ H E I w => ?_⟩
    obtain ⟨y, b, hy, rfl, rfl, h1, h2⟩ := w
    exact (hsu y b hy a oe pn hz hfl).run pins s σ H E I ⟨h1, h2⟩
  · rintro E σ H ⟨F, as, env, cs, ok, sl, h⟩
    refine ⟨F, as, env, cs, ok, sl, ?_⟩
    by_cases hi0 : i < env.length
    case neg =>
      unfold sTryB at h
      rw [if_neg hi0] at h
      exact False.elim h
    cases q : mb env cs with
    | no =>
      unfold sTryB at h
      rw [if_pos hi0, q] at h
      exact h
    | ok f cs2 =>
      unfold sTryB at h
      rw [if_pos hi0, q] at h
      exact h
    | ex x cs2 =>
      intro c d σ' F1 H1 as1 hl g1 ok1 hx
      have main : ∀ y : X4, x = y.e → wAs X.K (.ref ne) i (fun a cls d => fun E σ H => ∃ y b, g y = some b ∧ cls = .ref (ct.at4 y) ∧ d = none ∧ σ[i]? = some (some (.ref a)) ∧ E.rt (.bl b) H) W E c d σ' H1 := fun y hy => by
        subst hy
        rw [sTryB4 i mb g env cs cs2 y hi0 q] at h
        have ec : c = .ref (ct.at4 y) ∧ d = none := by cases y <;> exact hx
        obtain ⟨rfl, rfl⟩ := ec
        refine ⟨true, T.em y, fun _ a _ => ?_, fun z => nomatch z⟩
        cases q2 : g y with
        | none =>
          rw [q2] at h
          exact False.elim h
        | some b =>
          rw [q2] at h
          have hi' : i < σ'.length := by
            rw [hl, sl.len]
            exact hi0
          exact ⟨y, b, q2, rfl, rfl, by rw [List.getElem?_set_self hi'], h F1 H1 as1 g1 ok1 _ (.bl b)⟩
      cases x with
      | lines => exact main .lines rfl
      | thing => exact main .thing rfl
      | kind => exact main .kind rfl
      | nonet => exact main .nonet rfl
      | net o =>
        unfold sTryB at h
        rw [if_pos hi0, q] at h
        exact False.elim h
end G
namespace G
open L2 PySem PySem.Spec PyProof.Rows
/-- a law that says True of every script -/
theorem law_ends {K : PySem.W.Frag} {ct : Ct} {H : Hp} {a : Addr} {ns : List Int} {f : List D → Rp} (hS : SqL K H a (ns.map V.int)) (h : f [.scr ns] = .ok (.bl true)) : spP K ct 1 f [.ref a] H (fun v _ => v = .bl true) fun _ _ _ => False := by
  refine ⟨H, [.scr ns], ⟨Ext.refl H, List.nodup_nil, rfl, fun i a xs h _ => by simp at h⟩, .cons (.scr hS) .nil, rfl, ?_⟩
  rw [h]
  intro F' H' as' _ _ v hv
  cases hv
  rfl
end G
namespace G
open L2 PySem PySem.Spec PyProof.Rows
/-- the end of a law whose defs let own errors out -/
theorem walk_own {l : PySem.W.OpenLaw} {n k : Nat} {q : Program} {loose : List Str} {XP : (Str → Option Value) → Heap → Prop} {YP : World → Heap → Prop} {d : DefRec} {x : Str}
    (hn : l.most = some n) (hn2 : n ≤ sizeLine) (hdf : d.params.defaults = []) (hr : Room k callerA)
    (F : ∀ (w : World) (mg : Str → Option Value) (fa : Addr) (h : Heap), YP w h → h.Ns mainGlobals mg → mg d.name = some (.ref fa) →
      ∃ (K : PySem.W.Frag) (fd : FuncData) (ct : Ct) (f : List D → Rp), K.In h ∧ (∀ (s : Shared) (u : Value), BindsTo s fd ⟨[u], []⟩ [(x, u)]) ∧
        (∀ ns : List Int, ns.length ≤ n → f [.scr ns] = .ok (.bl true)) ∧
        ∀ base : Heap, K.In base → base.Ns mainGlobals mg → FnP l.prog w K mg base k fa fd [x] (spP K ct 1 f)) :
    PySem.W.WalkO q loose XP YP l.row.toRowW d [] (fun f vs => PySem.call f vs) := by
  refine Att.attach_call hn hdf fun w s₀ s₁ mg mb fa o pm cd doc a vs ns Gs Y ho hd hcd hmg hobj hints hlen hg => ?_
  obtain ⟨K, fd, ct, f, KX, hb, hf, hF⟩ := F w mg fa _ Y Gs.T.g hmg
  refine law_call KX Gs.T.g Gs.T.b Gs.T.builtins Gs.T.nolimit hg hobj hints (Nat.le_trans hlen hn2) hr hF hb (fun H _ hS => law_ends hS (hf ns hlen)) fun H e s' z => ?_
  obtain ⟨a, B, H', cls, d, _, _, _, _, _, _, _, z⟩ := z
  exact z
end G
/-! G8: plain: loops by invariants, data of nets. -/
namespace G
open L2 PySem PySem.Spec PyProof.Rows
/-! ### loops -/
theorem seq_nx {a b : En → M Fl} {env e : En} {cs cs1 : Cs} (h : a env cs = .ok (.nx e) cs1) : sSeq a b env cs = b e cs1 := by
  show M.bnd (a env) _ cs = _
  rw [M.bnd_ok h]
theorem asg_nm {m : En → M D} {i : Nat} {env : En} {cs cs1 : Cs} {d : D} (h : m env cs = .ok d cs1) : sAsg m (.nm i) env cs = .ok (.nx (env.set i (some d))) cs1 := by
  show M.bnd (m env) _ cs = _
  rw [M.bnd_ok h]
  rfl
theorem drop_nx {m : En → M D} {env : En} {cs cs1 : Cs} {d : D} (h : m env cs = .ok d cs1) : sDrop m env cs = .ok (.nx env) cs1 := by
  show M.bnd (m env) _ cs = _
  rw [M.bnd_ok h]
  rfl
theorem ret_rt {m : En → M D} {env : En} {cs cs1 : Cs} {d : D} (h : m env cs = .ok d cs1) : sRet m env cs = .ok (.rt d) cs1 := by
  show M.bnd (m env) _ cs = _
  rw [M.bnd_ok h]
  rfl
theorem if_f {t : En → M Bool} {a b : En → M Fl} {env : En} {cs cs1 : Cs} (h : t env cs = .ok false cs1) : sIf t a b env cs = b env cs1 := by
  show M.bnd (t env) _ cs = _
  rw [M.bnd_ok h]
  rfl
theorem if_t {t : En → M Bool} {a b : En → M Fl} {env : En} {cs cs1 : Cs} (h : t env cs = .ok true cs1) : sIf t a b env cs = a env cs1 := by
  show M.bnd (t env) _ cs = _
  rw [M.bnd_ok h]
  rfl
theorem val_b {m : En → M D} {env : En} {cs cs1 : Cs} {k : Bool} (h : m env cs = .ok (.bl k) cs1) : bVal m env cs = .ok k cs1 := by
  show M.bnd (m env) _ cs = _
  rw [M.bnd_ok h]
  rfl
theorem not_b {t : En → M Bool} {env : En} {cs cs1 : Cs} {k : Bool} (h : t env cs = .ok k cs1) : bNot t env cs = .ok (!k) cs1 := by
  show M.bnd (t env) _ cs = _
  rw [M.bnd_ok h]
  rfl
theorem or_f {a b : En → M Bool} {env : En} {cs cs1 : Cs} (h : a env cs = .ok false cs1) : bOr a b env cs = b env cs1 := by
  show M.bnd (a env) _ cs = _
  rw [M.bnd_ok h]
  rfl
theorem or_t {a b : En → M Bool} {env : En} {cs cs1 : Cs} (h : a env cs = .ok true cs1) : bOr a b env cs = .ok true cs1 := by
  show M.bnd (a env) _ cs = _
  rw [M.bnd_ok h]
  rfl
theorem and_t {a b : En → M Bool} {env : En} {cs cs1 : Cs} (h : a env cs = .ok true cs1) : bAnd a b env cs = b env cs1 := by
  show M.bnd (a env) _ cs = _
  rw [M.bnd_ok h]
  rfl
theorem and_f {a b : En → M Bool} {env : En} {cs cs1 : Cs} (h : a env cs = .ok false cs1) : bAnd a b env cs = .ok false cs1 := by
  show M.bnd (a env) _ cs = _
  rw [M.bnd_ok h]
  rfl
theorem var_at {i : Nat} {env : En} {cs : Cs} {d : D} (h : env[i]? = some (some d)) : xVar i env cs = .ok d cs := by
  unfold xVar
  rw [h]
  rfl
theorem bin_ok {f : D → D → M D} {a b : En → M D} {env : En} {cs cs1 cs2 : Cs} {x y : D} (h : a env cs = .ok x cs1) (h2 : b env cs1 = .ok y cs2) : xBin f a b env cs = f x y cs2 := by
  show M.bnd (a env) _ cs = _
  rw [M.bnd_ok h, M.bnd_ok h2]
theorem un_ok {f : D → M D} {a : En → M D} {env : En} {cs cs1 : Cs} {x : D} (h : a env cs = .ok x cs1) : xUn f a env cs = f x cs1 := by
  show M.bnd (a env) _ cs = _
  rw [M.bnd_ok h]
theorem cons_ok {a : En → M D} {r : En → M (List D)} {env : En} {cs cs1 cs2 : Cs} {x : D} {xs : List D} (h : a env cs = .ok x cs1) (h2 : r env cs1 = .ok xs cs2) : aCons a r env cs = .ok (x :: xs) cs2 := by
  show M.bnd (a env) _ cs = _
  rw [M.bnd_ok h, M.bnd_ok h2]
  rfl
theorem callP_ok {f : List D → Rp} {a : En → M (List D)} {env : En} {cs cs1 : Cs} {xs : List D} {d : D} (h : a env cs = .ok xs cs1) (hn : noRL xs = true) (hf : f xs = .ok d) : xCallP f a env cs = .ok d cs1 := by
  show M.bnd (a env) _ cs = _
  rw [M.bnd_ok h]
  show (if noRL xs = true then up (f xs) else M.no) cs1 = _
  rw [if_pos hn, hf]
  rfl
theorem callO2_ok {f : List D → Rp2} {a : En → M (List D)} {env : En} {cs cs1 : Cs} {xs : List D} {L : List (List D)} (h : a env cs = .ok xs cs1) (hn : noRL xs = true) (hf : f xs = .ok L) (hL : L.all noRL = true) : xCallO2 f a env cs = .ok (.lst (refsN cs1.length L.length)) (cs1 ++ L) := by
  show M.bnd (a env) _ cs = _
  rw [M.bnd_ok h]
  show (if noRL xs = true then (match f xs with
    | .ok L => if L.all noRL = true then .ok (.lst (refsN cs1.length L.length)) (cs1 ++ L) else .no
    | .ex x => .ex x cs1
    | .no => .no) else (.no : Rs D)) = _
  rw [if_pos hn, hf]
  show (if L.all noRL = true then _ else _) = _
  rw [if_pos hL]
theorem call_ok {g : List D → M D} {a : En → M (List D)} {env : En} {cs cs1 : Cs} {xs : List D} (h : a env cs = .ok xs cs1) : xCall g a env cs = g xs cs1 := by
  show M.bnd (a env) _ cs = _
  rw [M.bnd_ok h]
/-- a for loop that runs through -/
theorem forGo_inv {live : Cs → Bool} {t : Tg} {b : En → M Fl} (I : Nat → En → Cs → Prop) {xs : List D}
    (hl : ∀ i env cs, I i env cs → live cs = true)
    (hs : ∀ i x env cs, xs[i]? = some x → I i env cs → ∃ env1, tgS t x env = some env1 ∧ ∃ e' cs', b env1 cs = .ok (.nx e') cs' ∧ I (i + 1) e' cs') :
    ∀ {env : En} {cs : Cs}, I 0 env cs → ∃ e' cs', forGo live t b xs env cs = .ok (.nx e') cs' ∧ I xs.length e' cs' := by
  have gen : ∀ (ys : List D) (k : Nat), xs.drop k = ys → k ≤ xs.length → ∀ {env : En} {cs : Cs}, I k env cs → ∃ e' cs', forGo live t b ys env cs = .ok (.nx e') cs' ∧ I xs.length e' cs' := fun ys => by
    induction ys with
    | nil =>
      intro k e hk env cs h
      have ek := drop_nil e hk
      refine ⟨env, cs, ?_, by rw [← ek]; exact h⟩
      show guardM live _ cs = _
      unfold guardM
      rw [if_pos (hl _ _ _ h)]
      rfl
    | cons y ys ih =>
      intro k e hk env cs h
      obtain ⟨hx, hr, hlt⟩ := getElem_drop e
      obtain ⟨env1, h1, e', cs', h2, h3⟩ := hs k y env cs hx h
      obtain ⟨e2, cs2, h4, h5⟩ := ih (k + 1) hr hlt h3
      refine ⟨e2, cs2, ?_, h5⟩
      show guardM live (match tgS t y env with
        | some env1 => M.bnd (b env1) _
        | none => M.no) cs = _
      unfold guardM
      rw [if_pos (hl _ _ _ h), h1]
      show M.bnd (b env1) _ cs = _
      rw [M.bnd_ok h2]
      exact h4
  exact fun {env cs} h => gen xs 0 rfl (Nat.zero_le _) h
theorem for_inv {it : En → M It0} {t : Tg} {b : En → M Fl} {xs : List D} {live : Cs → Bool} {env : En} {cs cs1 : Cs} (I : Nat → En → Cs → Prop) (hi : it env cs = .ok ⟨xs, live⟩ cs1)
    (hl : ∀ i env cs, I i env cs → live cs = true)
    (hs : ∀ i x env cs, xs[i]? = some x → I i env cs → ∃ env1, tgS t x env = some env1 ∧ ∃ e' cs', b env1 cs = .ok (.nx e') cs' ∧ I (i + 1) e' cs') (h0 : I 0 env cs1) :
    ∃ e' cs', sFor it t b env cs = .ok (.nx e') cs' ∧ I xs.length e' cs' := by
  obtain ⟨e', cs', h1, h2⟩ := forGo_inv (t := t) (b := b) I hl hs h0
  refine ⟨e', cs', ?_, h2⟩
  show M.bnd (it env) _ cs = _
  rw [M.bnd_ok hi]
  exact h1
/-- a comprehension without a test whose items are reckoned one by one -/
theorem lcGo_map {live : Cs → Bool} {t : Tg} {te : En → M D} {env : En} {cs : Cs} (g : D → D) (hl : live cs = true) : ∀ {xs : List D}, (∀ x ∈ xs, ∃ env1, tgS t x env = some env1 ∧ te env1 cs = .ok (g x) cs) → lcGo live t bYes te env xs cs = .ok (xs.map g) cs
  | [], _ => by
    show guardM live _ cs = _
    unfold guardM
    rw [if_pos hl]
    rfl
  | x :: r, h => by
    obtain ⟨env1, h1, h2⟩ := h x List.mem_cons_self
    show guardM live (match tgS t x env with
      | some env1 => _
      | none => M.no) cs = _
    unfold guardM
    rw [if_pos hl, h1]
    show M.bnd (te env1) _ cs = _
    rw [M.bnd_ok h2, M.bnd_ok (lcGo_map g hl fun y hy => h y (List.mem_cons_of_mem _ hy))]
    rfl
theorem lc_map {c : Bool} {it : En → M It0} {own : List Nat} {t : Tg} {te : En → M D} {env : En} {cs cs1 : Cs} {xs : List D} {live : Cs → Bool} (g : D → D) (hi : it env cs = .ok ⟨xs, live⟩ cs1) (hl : live cs1 = true) (hz : szOk xs.length = true)
    (h : ∀ x ∈ xs, ∃ env1, tgS t x (wip env own) = some env1 ∧ te env1 cs1 = .ok (g x) cs1) : xLcN c it own t bYes te env cs = mkL c (xs.map g) cs1 := by
  show M.bnd (it env) _ cs = _
  rw [M.bnd_ok hi]
  show (if szOk xs.length = true then M.bnd (noX (lcGo live t bYes te (wip env own) xs)) _ else M.no) cs1 = _
  rw [if_pos hz]
  have e : noX (lcGo live t bYes te (wip env own) xs) cs1 = .ok (xs.map g) cs1 := by
    unfold noX
    rw [lcGo_map g hl h]
  rw [M.bnd_ok e]
/-! ### nets -/
abbrev Net := List (List (Int × Int))
def layD (xs : List (Int × Int)) : List D := xs.map pairD
def netD (N : Net) : D := .lst (N.map fun xs => .lst (layD xs))
def pyP (p : Int × Int) : PyData := .tuple [.int p.1, .int p.2]
def pyL (xs : List (Int × Int)) : PyData := .list (xs.map pyP)
def pyNet (N : Net) : PyData := .list (N.map pyL)
theorem pyGL_lay {r : Nat → Option PyData} : ∀ xs : List (Int × Int), pyGL r (layD xs) = some (xs.map pyP)
  | [] => rfl
  | p :: xs => by
    show (match pyG r (pairD p), pyGL r (layD xs) with
      | some p, some ps => some (p :: ps)
      | _, _ => none) = _
    rw [pyGL_lay xs]
    rfl
theorem pyGL_net {r : Nat → Option PyData} : ∀ N : Net, pyGL r (N.map fun xs => .lst (layD xs)) = some (N.map pyL)
  | [] => rfl
  | xs :: N => by
    show (match (pyGL r (layD xs)).map PyData.list, pyGL r (N.map fun xs => .lst (layD xs)) with
      | some p, some ps => some (p :: ps)
      | _, _ => none) = _
    rw [pyGL_net N, pyGL_lay xs]
    rfl
theorem py_net (cs : Cs) (N : Net) : py cs (netD N) = some (pyNet N) := by
  show (pyGL _ (N.map fun xs => .lst (layD xs))).map PyData.list = _
  rw [pyGL_net]
  rfl
theorem py_lay (cs : Cs) (xs : List (Int × Int)) : py cs (.lst (layD xs)) = some (pyL xs) := by
  show (pyGL _ (layD xs)).map PyData.list = _
  rw [pyGL_lay]
  rfl
theorem py_cell {cs : Cs} {i : Nat} {xs : List (Int × Int)} (h : cs[i]? = some (layD xs)) : py cs (.ref i) = some (pyL xs) := by
  show (match cs[i]? with
    | some xs => (pyGL (pyN cs 2) xs).map PyData.list
    | none => none) = _
  rw [h]
  show (pyGL (pyN cs 2) (layD xs)).map PyData.list = _
  rw [pyGL_lay]
  rfl
theorem pyGL_cells {cs : Cs} : ∀ (N : Net) (is : List Nat), is.length = N.length → (∀ (j i : Nat) (xs : List (Int × Int)), is[j]? = some i → N[j]? = some xs → cs[i]? = some (layD xs)) → pyGL (pyN cs 3) (is.map D.ref) = some (N.map pyL)
  | [], [], _, _ => rfl
  | xs :: N, i :: is, hl, h => by
    have h1 := py_cell (h 0 i xs rfl rfl)
    show (match py cs (.ref i), pyGL (pyN cs 3) (is.map D.ref) with
      | some p, some ps => some (p :: ps)
      | _, _ => none) = _
    rw [h1, pyGL_cells N is (by simpa using hl) fun j k ys hj hy => h (j + 1) k ys (by simpa using hj) (by simpa using hy)]
    rfl
  | [], _ :: _, hl, _ => by cases hl
  | _ :: _, [], hl, _ => by cases hl
theorem py_cells {cs : Cs} {N : Net} {is : List Nat} (hl : is.length = N.length) (h : ∀ (j i : Nat) (xs : List (Int × Int)), is[j]? = some i → N[j]? = some xs → cs[i]? = some (layD xs)) : py cs (.lst (is.map D.ref)) = some (pyNet N) := by
  show (pyGL (pyN cs 3) (is.map D.ref)).map PyData.list = _
  rw [pyGL_cells N is hl h]
  rfl
theorem lay_pyP : ∀ xs : List (Int × Int), PyData.canLayAll0 (xs.map pyP) = true ∧ PyData.depthAll (xs.map pyP) ≤ 1
  | [] => ⟨rfl, by simp [PyData.depthAll]⟩
  | p :: xs => by
    obtain ⟨h1, h2⟩ := lay_pyP xs
    constructor
    · simp [PyData.canLayAll0, PyData.canLay0, pyP, h1]
    · simp [PyData.depthAll, PyData.depth, pyP]
      omega
theorem lay_pyL : ∀ N : Net, PyData.canLayAll0 (N.map pyL) = true ∧ PyData.depthAll (N.map pyL) ≤ 2
  | [] => ⟨rfl, by simp [PyData.depthAll]⟩
  | xs :: N => by
    obtain ⟨h1, h2⟩ := lay_pyL N
    obtain ⟨h3, h4⟩ := lay_pyP xs
    constructor
    · simp [PyData.canLayAll0, PyData.canLay0, pyL, h1, h3]
    · simp [PyData.depthAll, PyData.depth, pyL]
      omega
theorem shaped_pyL (xs : List (Int × Int)) : SeqAt.shaped (pyL xs) = true := by
  obtain ⟨h1, h2⟩ := lay_pyP xs
  simp [SeqAt.shaped, pyL, PyData.canLay0, PyData.depth, h1]
  omega
theorem shaped_pyNet (N : Net) : SeqAt.shaped (pyNet N) = true := by
  obtain ⟨h1, h2⟩ := lay_pyL N
  simp [SeqAt.shaped, pyNet, PyData.canLay0, PyData.depth, h1]
  omega
theorem eqvAll_pyP : ∀ xs ys : List (Int × Int), PyData.eqvAll (xs.map pyP) (ys.map pyP) = decide (xs = ys)
  | [], [] => by simp [PyData.eqvAll]
  | [], _ :: _ => by simp [PyData.eqvAll]
  | _ :: _, [] => by simp [PyData.eqvAll]
  | p :: xs, q :: ys => by
    obtain ⟨p1, p2⟩ := p
    obtain ⟨q1, q2⟩ := q
    simp only [List.map_cons, PyData.eqvAll, eqvAll_pyP xs ys, pyP, PyData.eqv]
    by_cases h1 : p1 = q1 <;> by_cases h2 : p2 = q2 <;> by_cases h3 : xs = ys <;> simp [h1, h2, h3]
theorem eqv_pyL (xs ys : List (Int × Int)) : PyData.eqv (pyL xs) (pyL ys) = decide (xs = ys) := by
  unfold pyL
  rw [PyData.eqv]
  exact eqvAll_pyP xs ys
theorem eqvAll_pyL : ∀ N M : Net, PyData.eqvAll (N.map pyL) (M.map pyL) = decide (N = M)
  | [], [] => by simp [PyData.eqvAll]
  | [], _ :: _ => by simp [PyData.eqvAll]
  | _ :: _, [] => by simp [PyData.eqvAll]
  | xs :: N, ys :: M => by
    rw [List.map_cons, List.map_cons, PyData.eqvAll, eqvAll_pyL N M, eqv_pyL]
    by_cases h1 : xs = ys <;> by_cases h2 : N = M <;> simp [h1, h2]
theorem eqv_pyNet (N M : Net) : PyData.eqv (pyNet N) (pyNet M) = decide (N = M) := by
  unfold pyNet
  rw [PyData.eqv]
  exact eqvAll_pyL N M
theorem eq_net {b : Bool} {cs : Cs} {d e : D} {N M : Net} (h1 : py cs d = some (pyNet N)) (h2 : py cs e = some (pyNet M)) : opEq b d e cs = .ok (.bl (if b = true then decide (N = M) else !decide (N = M))) cs := by
  unfold opEq
  rw [h1, h2]
  show (if (SeqAt.shaped (pyNet N) && SeqAt.shaped (pyNet M)) = true then _ else _) = _
  rw [shaped_pyNet, shaped_pyNet, if_pos (show (true && true) = true from rfl), eqv_pyNet]
theorem eq_lay {b : Bool} {cs : Cs} {d e : D} {N M : List (Int × Int)} (h1 : py cs d = some (pyL N)) (h2 : py cs e = some (pyL M)) : opEq b d e cs = .ok (.bl (if b = true then decide (N = M) else !decide (N = M))) cs := by
  unfold opEq
  rw [h1, h2]
  show (if (SeqAt.shaped (pyL N) && SeqAt.shaped (pyL M)) = true then _ else _) = _
  rw [shaped_pyL, shaped_pyL, if_pos (show (true && true) = true from rfl), eqv_pyL]
theorem noR_lay : ∀ xs : List (Int × Int), noRL (layD xs) = true
  | [] => rfl
  | p :: xs => by
    show (noR (pairD p) && noRL (layD xs)) = true
    rw [noR_lay xs]
    rfl
theorem all_noR (N : Net) : (N.map layD).all noRL = true := by
  rw [List.all_eq_true]
  intro x hx
  obtain ⟨xs, _, rfl⟩ := List.mem_map.mp hx
  exact noR_lay xs
theorem eqDL_refl_lay : ∀ xs : List (Int × Int), eqDL (layD xs) (layD xs) = true
  | [] => rfl
  | p :: xs => by
    show (eqD (pairD p) (pairD p) && eqDL (layD xs) (layD xs)) = true
    rw [eqDL_refl_lay xs]
    show (((p.1 == p.1) && ((p.2 == p.2) && true)) && true) = true
    simp
/-- from a checked list of lists to a net -/
def toNet : List (List D) → Option Net
  | [] => some []
  | xs :: r => match pairsOf xs, toNet r with
    | some p, some q => some (p :: q)
    | _, _ => none
theorem toNet_eq : ∀ {L : List (List D)} {N : Net}, toNet L = some N → L = N.map layD
  | [], N, e => by
    cases e
    rfl
  | xs :: r, N, e => by
    have e2 : (match pairsOf xs, toNet r with
      | some p, some q => some (p :: q)
      | _, _ => none) = some N := e
    split at e2
    · rename_i p q e3 e4
      cases e2
      rw [pairsOf_map e3, toNet_eq e4]
      rfl
    · cases e2
def isT : Rp → Bool
  | .ok (.bl true) => true
  | _ => false
theorem isT_eq {r : Rp} (h : isT r = true) : r = .ok (.bl true) := by
  unfold isT at h
  split at h
  · rfl
  · cases h
end G
namespace G
open L2 PySem PySem.Spec PyProof.Rows
theorem seq_rt {a b : En → M Fl} {env : En} {cs cs1 : Cs} {d : D} (h : a env cs = .ok (.rt d) cs1) : sSeq a b env cs = .ok (.rt d) cs1 := by
  show M.bnd (a env) _ cs = _
  rw [M.bnd_ok h]
  rfl
theorem runP_rt {c : En → M Fl} {k : Nat} {ds : List D} {d p : D} {cs : Cs} (h : c (startE k ds) [] = .ok (.rt d) cs) (hr : res cs d = some p) : runP c k ds = .ok p := by
  unfold runP
  rw [h]
  show (match res cs d with
    | some p => Rp.ok p
    | none => Rp.no) = _
  rw [hr]
theorem runP_nx {c : En → M Fl} {k : Nat} {ds : List D} {e : En} {cs : Cs} (h : c (startE k ds) [] = .ok (.nx e) cs) : runP c k ds = .ok .non := by
  unfold runP
  rw [h]
theorem runP_ex {c : En → M Fl} {k : Nat} {ds : List D} {x : Exn} {cs : Cs} (h : c (startE k ds) [] = .ex x cs) : runP c k ds = .ex x := by
  unfold runP
  rw [h]
theorem atI_map_int (ns : List Int) (k : Nat) (h : k < ns.length) : atI (ns.map D.int) (k : Int) = some (.int ns[k]) := by
  unfold atI ixN
  rw [List.length_map, if_pos (by omega), if_pos (by omega)]
  simp [h]
theorem guard_ok {live : Cs → Bool} {α : Type} {m : M α} {cs : Cs} (h : live cs = true) : guardM live m cs = m cs := by
  unfold guardM
  rw [if_pos h]
end G
namespace G
open L2 PySem PySem.Spec PyProof.Rows
theorem blsOf_map {α : Type} (g : α → Bool) : ∀ xs : List α, blsOf (xs.map fun x => D.bl (g x)) = some (xs.map g)
  | [] => rfl
  | x :: xs => by
    show (blsOf (xs.map fun x => D.bl (g x))).map (g x :: ·) = _
    rw [blsOf_map g xs]
    rfl
/-- all([.. for p in layer]) over a cell's pairs, each item true -/
theorem all_true {te : En → M D} {env : En} {cs : Cs} {j s i : Nat} {xs : List (Int × Int)} (he : env[j]? = some (some (.ref i))) (hc : cs[i]? = some (layD xs)) (hz : xs.length ≤ 1000000)
    (h : ∀ p ∈ xs, te ((wip env [s]).set s (some (pairD p))) cs = .ok (.bl true) cs) : xCall opAll (aCons (xLcN false (itSeq (xVar j)) [s] (.nm s) bYes te) aNil) env cs = .ok (.bl true) cs := by
  have hi : itSeq (xVar j) env cs = .ok ⟨layD xs, liveOf (layD xs) (.ref i)⟩ cs := by
    show M.bnd (xVar j env) _ cs = _
    rw [M.bnd_ok (var_at he)]
    show (match cs[i]? with
      | some xs => Rs.ok (It0.mk xs (liveOf xs (.ref i))) cs
      | none => .no) = _
    rw [hc]
  have hl : liveOf (layD xs) (.ref i) cs = true := by
    show (match cs[i]? with
      | some ys => eqDL ys (layD xs)
      | none => false) = true
    rw [hc]
    exact eqDL_refl_lay xs
  have e : xLcN false (itSeq (xVar j)) [s] (.nm s) bYes te env cs = .ok (.lst ((layD xs).map fun _ => D.bl true)) cs := by
    rw [lc_map (fun _ => D.bl true) hi hl (by unfold layD szOk; rw [List.length_map]; exact decide_eq_true hz) fun x hx => ?_]
    · rfl
    · obtain ⟨p, hp, rfl⟩ := List.mem_map.mp hx
      exact ⟨_, rfl, h p hp⟩
  rw [call_ok (cons_ok e rfl)]
  show (match (some ((layD xs).map fun _ => D.bl true)).bind blsOf with
    | some bs => Rs.ok (D.bl (bs.all id)) cs
    | none => .no) = _
  rw [Option.bind_some, blsOf_map (fun _ => true)]
  have : ((layD xs).map fun _ => true).all id = true := by
    rw [List.all_eq_true]
    intro b hb
    obtain ⟨_, _, rfl⟩ := List.mem_map.mp hb
    rfl
  show Rs.ok (D.bl (((layD xs).map fun _ => true).all id)) cs = _
  rw [this]
end G
namespace G
open L2 PySem PySem.Spec PyProof.Rows
theorem app_ok {o v : En → M D} {env : En} {cs cs1 cs2 : Cs} {i : Nat} {y : D} {xs : List D} (h : o env cs = .ok (.ref i) cs1) (h2 : v env cs1 = .ok y cs2) (hc : cs2[i]? = some xs) (hz : xs.length ≤ 1000000) : xApp o v env cs = .ok .non (cs2.set i (xs ++ [y])) := by
  show M.bnd (o env) _ cs = _
  rw [M.bnd_ok h]
  show M.bnd (v env) _ cs1 = _
  rw [M.bnd_ok h2]
  unfold cApp
  rw [hc]
  show (if szOk xs.length = true then _ else _) = _
  rw [if_pos (show szOk xs.length = true from decide_eq_true hz)]
theorem itSeq_ok {m : En → M D} {env : En} {cs cs1 : Cs} {d : D} {xs : List D} (h : m env cs = .ok d cs1) (hs : seqOf cs1 d = some xs) : itSeq m env cs = .ok ⟨xs, liveOf xs d⟩ cs1 := by
  show M.bnd (m env) _ cs = _
  rw [M.bnd_ok h]
  show (match seqOf cs1 d with
    | some xs => Rs.ok (It0.mk xs (liveOf xs d)) cs1
    | none => .no) = _
  rw [hs]
theorem itZip_ok {m m' : En → M D} {env : En} {cs cs1 cs2 : Cs} {d e : D} {xs ys : List D} (h : m env cs = .ok d cs1) (h2 : m' env cs1 = .ok e cs2) (hs : seqOf cs2 d = some xs) (hs2 : seqOf cs2 e = some ys) :
    itZip m m' env cs = .ok ⟨(xs.zip ys).map fun p => .tup [p.1, p.2], fun cs' => liveOf xs d cs' && liveOf ys e cs'⟩ cs2 := by
  show M.bnd (m env) _ cs = _
  rw [M.bnd_ok h]
  show M.bnd (m' env) _ cs1 = _
  rw [M.bnd_ok h2]
  show (match seqOf cs2 d, seqOf cs2 e with
    | some xs, some ys => Rs.ok (It0.mk ((xs.zip ys).map fun (p : D × D) => .tup [p.1, p.2]) fun cs' => liveOf xs d cs' && liveOf ys e cs') cs2
    | _, _ => .no) = _
  rw [hs, hs2]
theorem refsN_get {n m j : Nat} {x : D} (h : (refsN n m)[j]? = some x) : j < m ∧ x = .ref (n + j) := by
  unfold refsN at h
  rw [List.getElem?_map] at h
  by_cases hj : j < m
  · rw [List.getElem?_range hj] at h
    exact ⟨hj, (Option.some.inj h).symm⟩
  · rw [List.getElem?_eq_none (by rw [List.length_range]; omega)] at h
    cases h
theorem refsN_eq (n m : Nat) : refsN n m = ((List.range m).map (n + ·)).map D.ref := by
  unfold refsN
  rw [List.map_map]
  rfl
theorem asP_ok {f : List D → Rp2} {ds : List D} {N : Net} (h : f ds = .ok (N.map layD)) : asP f ds = .ok (netD N) := by
  unfold asP
  rw [h]
  show (if (N.map layD).all noRL = true then _ else _) = _
  rw [if_pos (all_noR N), List.map_map]
  rfl
end G
/-! G9: a def that is told a caught error. -/
namespace G
open L2 PySem PySem.Spec PyProof.Rows
/-! ### xs.count(y), flat items -/
def rCntF (K : PySem.W.Frag) : V → List V → Hp → VK → Prop := fun x xs H Q => ∃ (a : Addr) (ys : List V) (y : V), x = .ref a ∧ xs = [y] ∧ SqL K H a ys ∧ flatV y = true ∧ ys.all flatV = true ∧ Q (.int (ys.countP fun z => eqV z y : Nat)) H
theorem countF_vals {y : V} : ∀ {ys : List V} {us : List Value}, Vals ys us → ys.all flatV = true → us.countP (eqU y) = ys.countP fun z => eqV z y
  | _, _, .nil, _ => rfl
  | z :: ys, u :: us, .cons r t, f => by
    obtain ⟨f1, f2⟩ := Bool.and_eq_true_iff.mp (show (flatV z && ys.all flatV) = true from f)
    rw [List.countP_cons, List.countP_cons, countF_vals t f2, eqU_of r f1]
theorem mt_countF {X : Cx} : MtR X "list.count" (rCntF X.K) := fun pins s σ H x xs v us Q I rx rxs h => by
  obtain ⟨a, ys, y, rfl, rfl, hs, fy, fys, q⟩ := h
  cases rx
  obtain ⟨u, rfl, ry⟩ := rxs.one
  obtain ⟨its, rv, ⟨⟨cls, dd, data, sl⟩, n, ho, hc, hdn, hd⟩, _⟩ := I.list hs
  simp only at hc hd
  subst hc hd
  refine call_meets PySem.F.slot_list_count ⟨_, ho, rfl⟩ PySem.F.entry_list_count (PySem.F.args_list_count_2 _ _) (SeqAt.list_countAt a its.toArray n dd sl u (eqU y)) ⟨ho, fun w hw => mem_eqAt ry fy rv fys w (by simpa using hw), ?_⟩
  refine ⟨.int (ys.countP fun z => eqV z y : Nat), H, I.tok _, ⟨s.toks, ?_⟩, q⟩
  rw [show its.toArray.toList.countP (eqU y) = ys.countP fun z => eqV z y from countF_vals rv fys]
/-! ### isinstance of a pinned error -/
theorem call_isX {X : Cx} {p : Addr × Obj} {D : Addr} (C : ExcC X.K D) (hp : p ∈ X.pn) (hz : Zc (.ref D) none p.2) (hf : ∃ vs, p.2.data = .fields vs) : CallR X (.builtin "isinstance") (rIsE X.K D p.1) := fun pins s σ H xs us Q I r h => by
  obtain ⟨c, cv, b, rfl, hcv, e, q⟩ := h
  obtain ⟨x1, x2, rfl, r1, r2⟩ := vals2 r
  cases r1
  cases hcv _ r2
  obtain ⟨vs, hv⟩ := hf
  obtain ⟨z1, z2⟩ := hz
  have J : PySem.W.InstAt s.heap p.1 p.2 D none := ⟨(I.pin p (List.mem_append_left _ hp)).1, z1, by unfold PySem.W.notCls; rw [hv] <;> rfl, by rw [z2]; trivial⟩
  exact PySem.W.kia_one (PySem.W.handS_kitx_exc C.hg C.hk C.hs C.hd C.ha C.hn C.ht C.hm) I.kIn J e (fun z => nomatch z) fun tk => ⟨.bl b, H, I.kept (t' := tk) fun _ _ z => z, rfl, q⟩
section
variable {X : Cx} {ct : Ct} {D c : Addr} {pn : Addr × Obj} {e : Expr} {x : Str} {p p2 pos : Pos} {i : Nat} {b : Bool}
theorem pe_xOwn (C : ExcC X.K D) (hp : pn ∈ X.pn) (hz : Zc (.ref D) none pn.2) (hf : ∃ vs, pn.2.data = .fields vs) (hI : X.mg "isinstance" = none) (hm : X.mg x = some (.ref c)) (k : PySem.W.kitOne X.K (.ref D) (.ref c) = some b) (he : PE X e (tVar i)) (hgI : Gl X "isinstance") (hg : Gl X x) (hd : (x == ("__debug__" : Str)) = false := by decide)
    (h1 : starEach [e, .Name x p2] X.env = (false, eval e X.env) :: starEach [.Name x p2] X.env := by rfl) (h2 : starEach [.Name x p2] X.env = (false, eval (.Name x p2) X.env) :: starEach [] X.env := by rfl) (hpl : (backTo pos (starEach [.Name x p2] X.env)).any (·.1) = false := by rfl) :
    PE X (.Call (.Name "isinstance" p) [e, .Name x p2] [] pos) (tEb i pn.1 b) := PE.imp (pe_callB (call_isX C hp hz hf) hgI hI (by decide +kernel) (pa_cons he (pa_cons (pe_glob (v := .ref c) hg hm rfl hd) pa_nil h2) h1) (by decide) (by decide) h1 hpl) fun σ H Q h => ⟨_, h.1, .ref c, .ref c, b, rfl, fun _ r => r, k, h.2⟩
theorem pe_xVal (C : ExcC X.K D) (hp : pn ∈ X.pn) (hz : Zc (.ref D) none pn.2) (hf : ∃ vs, pn.2.data = .fields vs) (hI : X.mg "isinstance" = none) (hm : X.mg "ValueError" = none) (k : PySem.W.kitOne X.K (.ref D) (.type "ValueError") = some b) (he : PE X e (tVar i)) (hgI : Gl X "isinstance") (hg : Gl X "ValueError")
    (h1 : starEach [e, .Name "ValueError" p2] X.env = (false, eval e X.env) :: starEach [.Name "ValueError" p2] X.env := by rfl) (h2 : starEach [.Name "ValueError" p2] X.env = (false, eval (.Name "ValueError" p2) X.env) :: starEach [] X.env := by rfl) (hpl : (backTo pos (starEach [.Name "ValueError" p2] X.env)).any (·.1) = false := by rfl) :
    PE X (.Call (.Name "isinstance" p) [e, .Name "ValueError" p2] [] pos) (tEb i pn.1 b) := PE.imp (pe_callB (call_isX C hp hz hf) hgI hI (by decide +kernel) (pa_cons he (pa_cons (pe_bltn (v := .ty "ValueError") hg hm (by decide +kernel) rfl) pa_nil h2) h1) (by decide) (by decide) h1 hpl) fun σ H Q h => ⟨_, h.1, .ty "ValueError", .type "ValueError", b, rfl, fun _ r => r, k, h.2⟩
end
/-! ### such a def -/
abbrev SpE := Addr × Obj → List V → Hp → VK → Prop
structure FnE (P : Program) (w : World) (K : PySem.W.Frag) (mg : Str → Option Value) (base : Heap) (k : Nat) (f : Addr) (fd : FuncData) (ps : List Str) (sp : SpE) : Prop where
  run : ∀ (A : Around) (outer : List Env) (s : Shared) (H : Hp) (args : Args) (us : List Value) (vs : List V) (Q : VK) (p : Addr × Obj), L2H.RoomH k A → L2H.PinOk outer H s p → Env0 P w K mg base A outer s H → BindsTo s fd args (ps.zip us) → Vals vs us → vs.length = ps.length → sp p vs H Q →
    codeAny (model P w) A (.call (.ref f) args) (CR L2.CX0 outer P w H s Q L2.E0) s
abbrev cxE (P : Program) (w : World) (K : PySem.W.Frag) (mg : Str → Option Value) (base : Heap) (N : List Str) (x : Str) (st : Stmt) (f : Addr) (cdv : Value) (A : Around) (outer : List Env) (s : Shared) (H : Hp) (p : Addr × Obj) : Cx := L2H.cxH L2.CX0 P w K mg base N x (defScope st) f cdv A outer s H L2.E0 p
theorem def_E {P : Program} {w : World} {K : PySem.W.Frag} {mg : Str → Option Value} {base : Heap} {x : Str} {st : Stmt} {f : Addr} {fd : FuncData} {N ps : List Str} {k : Nat} {sp : SpE} (F : FunG K x st f fd) (S : FnScope N ps (defScope st))
    (body : ∀ (cdv : Value) (A : Around) (outer : List Env) (s : Shared) (H : Hp) (vs : List V) (Q : VK) (p : Addr × Obj), sp p vs H Q → ∃ t, PSs (cxE P w K mg base N x st f cdv A outer s H p) (defBody st) t ∧ t { nx := fun _ H' => Q .non H', rt := Q } (L2.start N vs) H) : FnE P w K mg base (k + 1) f fd ps sp := by
  obtain ⟨oc, od, dV, kV, doc, pm, an, cdv, ctx, osl, rfl, lk, hcd, _, _⟩ := F.ex
  refine ⟨fun A outer s H args us vs Q p hr hpin e0 hb r hl hsp => ?_⟩
  have sub : ∀ b o, base.get? b = some o → s.heap.get? b = some o := fun b o e => (e0.bs b o e).1
  refine codeAny_call_function hr.depth (e0.mod.kin.keeps sub _ _ lk) rfl S.co S.gen rfl (PySem.W.codeRec_of (e0.mod.kin.keeps sub) hcd) (hb _ _ _ _ (wpAny_newFunctionEnv_cells S.kind (fun y hy => ?_) fun env he s1 z => ?_))
  · rcases S.par y.1 (List.of_mem_zip (a := y.1) (b := y.2) hy).1 with q | q
    · exact .inl q
    · exact .inr ⟨q, PySem.W.cellsFrom_some _ _ _ (.inl q)⟩
  · subst he
    obtain ⟨t, ht, hq⟩ := body cdv A outer s H vs Q p hsp
    refine ⟨(e0.mod.nolimit.keeps sub).keeps z.toInCall.keep, codeAny_func (wpAny_mono (ht.run [] s1 (L2.start N vs) H _ (L2H.inv_startH S hpin e0 hl r z) hq) (fun fl s' hs => ?_) fun e s' hs => hs)⟩
    cases fl with
    | ret u =>
      obtain ⟨v, σ', H', J, rv, q⟩ := hs
      exact ⟨v, H', J.os, J.bare, J.base, J.hok, rv, q⟩
    | next =>
      obtain ⟨σ', H', J, q⟩ := hs
      exact ⟨.non, H', J.os, J.bare, J.base, J.hok, rfl, q⟩
    | brk =>
      obtain ⟨_, _, _, q⟩ := hs
      exact q.elim
    | cont =>
      obtain ⟨_, _, _, q⟩ := hs
      exact q.elim
/-- the call, in a suite -/
theorem pe_callE {X : Cx} {k : Nat} {f : Addr} {fd : FuncData} {ps : List Str} {sp : SpE} {x : Str} {q pos : Pos} {e : Expr} {es : List Expr} {t : TA} {p : Addr × Obj} (F : FnE X.prog X.w X.K X.mg X.base k f fd ps sp) (hp : p ∈ X.pn) (hr : L2H.RoomH k X.A) (hg : Gl X x) (hm : X.mg x = some (.ref f)) (hk : PySem.W.keepIn X.K (.ref f) = true) (hb : Binds X.K fd ps [])
    (ha : PA X (e :: es) t) (hdb : (x == ("__debug__" : Str)) = false := by decide) (he : starEach (e :: es) X.env = (false, eval e X.env) :: starEach es X.env := by rfl) (hpl : (backTo pos (starEach es X.env)).any (·.1) = false := by rfl) :
    PE X (.Call (.Name x q) (e :: es) [] pos) (fun σ H Q => t σ H fun vs H1 => vs.length = ps.length ∧ sp p vs H1 Q) := by
  refine ⟨fun pins s σ H Q I h => wpAny_Call_Name_kw (ld_glob I hg hm (PySem.W.callWith_K (h₀ := X.base) I.ok.mod.kin hk (thn (ha.run pos pins s σ H _ I h) fun us s1 ⟨vs, H1, I1, r, hl, w⟩ => ⟨I1.kIn, ?_⟩) he hpl) hdb)⟩
  have P1 := I1.pin p (List.mem_append_left _ hp)
  have b := hb s1 us I1.kIn (by rw [List.append_nil, ← r.length]; exact hl)
  rw [List.append_nil] at b
  refine wpAny_call (codeAny_mono (F.run X.A X.stack s1 H1 ⟨us, []⟩ us vs Q p hr ⟨P1.1, P1.2.1, fun hm => (List.mem_cons.mp (I1.stkSub p.1 hm)).elim P1.2.2.1 P1.2.2.2.1, P1.2.2.2.2⟩ I1.env0 b r hl w) fun r s' hq => ?_)
  cases r with
  | error e => exact hq.elim
  | ok fl =>
    cases fl with
    | ret u => exact I1.after hq
    | next => exact hq.elim
    | brk => exact hq.elim
    | cont => exact hq.elim
end G
namespace G
open L2 PySem PySem.Spec PyProof.Rows
/-! ### the law's word for an error -/
def X4.word : X4 → Str
  | .lines => PySem.Str.ofString "lines"
  | .thing => PySem.Str.ofString "thing"
  | .kind => PySem.Str.ofString "kind"
  | .nonet => PySem.Str.ofString "none"
def spW (K : PySem.W.Frag) (ct : Ct) : SpE := fun p vs H Q => ∃ y : X4, vs = [.ref p.1] ∧ Zc (.ref (ct.at4 y)) none p.2 ∧ (∃ fs, p.2.data = .fields fs) ∧ ∀ l H', H l = none → Ext H H' → H' l = some (.lst [.str y.word]) → Q (.ref l) H'
def DpE (P : Program) (w : World) (K : PySem.W.Frag) (mg : Str → Option Value) (base : Heap) (ct : Ct) (k : Nat) : Prop := ∃ fa fd, mg "_law_word" = some (.ref fa) ∧ PySem.W.keepIn K (.ref fa) = true ∧ L2.Binds K fd ["_law_e"] [] ∧ FnE P w K mg base k fa fd ["_law_e"] (spW K ct)
def wordD : Exn → Option D
  | .lines => some (.lst [.str (PySem.Str.ofString "lines")])
  | .thing => some (.lst [.str (PySem.Str.ofString "thing")])
  | .kind => some (.lst [.str (PySem.Str.ofString "kind")])
  | .nonet => some (.lst [.str (PySem.Str.ofString "none")])
  | .net _ => none
theorem wordD4 (y : X4) : wordD y.e = some (.lst [.str y.word]) := by cases y <;> rfl
/-- try: body, except NetError as e: return _law_word(e) -/
def sTryW (i : Nat) (body : En → M Fl) : En → M Fl := fun env cs => if i < env.length then (match body env cs with
  | .ok f cs' => .ok f cs'
  | .ex x cs' => (match wordD x with
    | some d => .ok (.rt d) cs'
    | none => .no)
  | .no => .no) else .no
theorem gs_tryW {X : Cx} {ct : Ct} {W : WX} {ne : Addr} {i k j : Nat} {n : Str} {mb : En → M Fl} {body : List Stmt} {np pos pos' p1 p2 p3 p4 : Pos} (T : Xt X.K X.mg ct ne) (hs : X.stack = X.env :: X.outer) (hf : X.env.frame = some X.env.locals) (hN : X.N.Nodup) (hi : X.N[i]? = some n) (hln : X.env.kindOf n = some .local) (hg : Gl X "NetError") (tk : Takes X W)
    (hr : Room k X.A) (hj : j ≤ k) (Wd : DpE X.prog X.w X.K X.mg X.base ct j) (hgw : Gl X "_law_word") (hv : ∀ (a : Addr) (pn : List (Addr × Obj)), PE (X.suite a pn) (.Name n p3) (tVar i)) (hst : starEach [.Name n p3] X.env = (false, eval (.Name n p3) X.env) :: starEach [] X.env)
    (hb : ∀ (W : WX) (pn : List (Addr × Obj)) (xe : Value → Shared → Prop), Takes (X.tr pn xe) W → PassesOwn (model X.prog X.w) X.A X.env xe → PSs (X.tr pn xe) body (tS X.K ct W mb)) :
    PS X (.Try body [.ExceptHandler (some (.Name "NetError" np)) (some n) [.Return (some (.Call (.Name "_law_word" p1) [.Name n p3] [] p4)) p2] pos'] [] [] pos) (tS X.K ct W (sTryW i mb)) := by
  obtain ⟨fa, fd, hm, hk, hbd, Fn⟩ := Wd
  refine PS.imp (ps_try_as (i := i) (c := .ref ne) (Wout := W) (ts := fun a cls d => fun E σ H => ∃ y : X4, cls = .ref (ct.at4 y) ∧ d = none ∧ σ[i]? = some (some (.ref a)) ∧ ∀ l H', H l = none → Ext H H' → H' l = some (.lst [.str y.word]) → E.rt (.ref l) H') hs hf hN hi hln ⟨hg, by decide, .inl T.mgE⟩ tk hb fun a oe cls d pn hz hfl => ?_) ?_
  · refine PSs.imp (pss_one (ps_ret (pe_callE (p := (a, oe)) (ps := ["_law_e"]) (X := X.suite a ((a, oe) :: pn)) Fn List.mem_cons_self ⟨(hr.mono hj).dp, (hr.mono hj).un⟩ hgw hm hk hbd (pa_cons (hv a _) pa_nil hst) (by decide) hst rfl))) ?_
    rintro E σ H ⟨y, rfl, rfl, h1, h2⟩
    exact ⟨_, h1, rfl, y, rfl, hz, hfl, h2⟩
  · rintro E σ H ⟨F, as, env, cs, ok, sl, h⟩
    refine ⟨F, as, env, cs, ok, sl, ?_⟩
    unfold sTryW at h
    split at h
    · rename_i hi0
      cases q : mb env cs with
      | no =>
        rw [q] at h
        exact h
      | ok f cs2 =>
        rw [q] at h
        exact h
      | ex x cs2 =>
        rw [q] at h
        intro c d σ' F1 H1 as1 hl g1 ok1 hx
        have main : ∀ y : X4, x = y.e → wAs X.K (.ref ne) i (fun a cls d => fun E σ H => ∃ y : X4, cls = .ref (ct.at4 y) ∧ d = none ∧ σ[i]? = some (some (.ref a)) ∧ ∀ l H', H l = none → Ext H H' → H' l = some (.lst [.str y.word]) → E.rt (.ref l) H') W E c d σ' H1 := fun y hy => by
          subst hy
          have ec : c = .ref (ct.at4 y) ∧ d = none := by cases y <;> exact hx
          obtain ⟨rfl, rfl⟩ := ec
          refine ⟨true, T.em y, fun _ a _ => ?_, fun z => nomatch z⟩
          have h3 : out X.K ct W σ.length F H as (match wordD y.e with
            | some d => Rs.ok (Fl.rt d) cs2
            | none => .no) (oS X.K σ.length E) := h
          rw [wordD4] at h3
          refine ⟨y, rfl, rfl, by rw [List.getElem?_set_self (by rw [hl, sl.len]; exact hi0)], fun l H' hn he hH => ?_⟩
          have g2 : Gro F1 H1 as1 (upd F1 l (.lst [.str y.word])) H' as1 := ⟨Ext.new (ok1.fnone hn), fun q hq => upd_ne fun e => hq (by rw [e]; exact hn), fun q o hq _ => he q o hq, fun q hq => by
            cases q2 : H1 q with
            | none => exact absurd q2 hq
            | some o =>
              rw [he q o q2]
              exact (fun z => nomatch z), List.prefix_rfl, fun _ m => .inl m⟩
          have ok2 : Ok X.K (upd F1 l (.lst [.str y.word])) H' as1 cs2 := ⟨fun b o e => by
            by_cases q : b = l
            · rw [q, upd_same] at e
              cases e
              rw [q]
              exact hH
            · rw [upd_ne q] at e
              exact he b o (ok1.fh b o e), ok1.nd, ok1.len, fun j a xs ha hxs => by
              obtain ⟨w1, ys, w2, w3⟩ := ok1.cell j a xs ha hxs
              exact ⟨by rw [upd_ne fun e => ok1.out hn (by rw [← e]; exact List.mem_of_getElem? ha)]; exact w1, ys, he a _ w2, w3.mono (Ext.new (ok1.fnone hn)) List.prefix_rfl⟩⟩
          exact h3 _ H' as1 (g1.trans g2) ok2 _ (.lst upd_same (.cons (.str _) .nil))
        cases x with
        | lines => exact main .lines rfl
        | thing => exact main .thing rfl
        | kind => exact main .kind rfl
        | nonet => exact main .nonet rfl
        | net o => exact False.elim h
    · exact False.elim h
end G
namespace G
open L2 PySem PySem.Spec PyProof.Rows
def wordsV : List V := [.str (PySem.Str.ofString "kind"), .str (PySem.Str.ofString "thing"), .str (PySem.Str.ofString "lines"), .str (PySem.Str.ofString "net"), .str (PySem.Str.ofString "none")]
/-- what the word's def does with an error of y's class -/
def tWord (K : PySem.W.Frag) (a : Addr) (y : X4) : TS :=
  tSeq (tAsg (tLst (tCons (tEb 0 a (y.eqb .kind)) (tCons (tEb 0 a (y.eqb .thing)) (tCons (tEb 0 a (y.eqb .lines)) (tCons (tEb 0 a false) tNil))))) (gName 1))
    (tSeq (tDrop (tBM K "list" rAppend (tVar 1) (tCons (tEb 0 a (y.eqb .nonet)) tNil)))
      (tSeq (tIfS (tOr (tTest (tOp rNe (tBM K "list" (rCntF K) (tVar 1) (tCons (tC (V.bl true)) tNil)) (tC (V.int 1)))) (tNot (tB (tEb 0 a true)))) (tRet (tLst (tCons (tC (V.str (PySem.Str.ofString "other"))) tNil))) tNext)
        (tRet (tLst (tCons (tOp (rIx K) (tLst (tCons (tC (.str (PySem.Str.ofString "kind"))) (tCons (tC (.str (PySem.Str.ofString "thing"))) (tCons (tC (.str (PySem.Str.ofString "lines"))) (tCons (tC (.str (PySem.Str.ofString "net"))) (tCons (tC (.str (PySem.Str.ofString "none"))) tNil)))))) (tBM K "list" (rIndex K) (tVar 1) (tCons (tC (V.bl true)) tNil))) tNil)))))
def X4.at5 : X4 → Nat
  | .kind => 0
  | .thing => 1
  | .lines => 2
  | .nonet => 4
theorem word_wish {K : PySem.W.Frag} {a : Addr} {y : X4} {H : Hp} {Q : VK} (hq : ∀ l H', H l = none → Ext H H' → H' l = some (.lst [.str y.word]) → Q (.ref l) H') : tWord K a y { nx := fun _ H' => Q .non H', rt := Q } (L2.start ["_law_e", "_law_mine"] [.ref a]) H := by
  refine ⟨rfl, rfl, rfl, rfl, (by decide : 4 ≤ sizeLine), fun l hl => ?_⟩
  refine ⟨.ref l, rfl, .inl ⟨rfl, _, SqL.of upd_same⟩, rfl, l, _, _, rfl, rfl, upd_same, (by decide : 4 < sizeLine), ?_⟩
  refine ⟨.ref l, rfl, .inl ⟨rfl, _, SqL.of upd_same⟩, l, _, .bl true, rfl, rfl, SqL.of upd_same, rfl, by cases y <;> rfl, by cases y <;> rfl, false, by cases y <;> rfl, ?_⟩
  refine (if_neg Bool.false_ne_true).mpr ?_
  refine ⟨rfl, true, rfl, ?_⟩
  refine (if_neg Bool.false_ne_true).mpr ?_
  refine ⟨by decide, fun l2 hl2 => ?_⟩
  have n12 : l ≠ l2 := fun e => by
    rw [← e, upd_same] at hl2
    cases hl2
  refine ⟨.ref l, rfl, .inl ⟨rfl, _, SqL.of (by rw [upd_ne n12]; exact upd_same)⟩, l, _, .bl true, y.at5, .bl true, rfl, rfl, SqL.of (by rw [upd_ne n12]; exact upd_same), rfl, by cases y <;> rfl, by cases y <;> rfl, rfl, ?_, ?_⟩
  · intro m z hm hz
    cases y with
    | kind => exact absurd hm (by simp [X4.at5])
    | thing => match m, hm, hz with
      | 0, _, hz => cases hz; rfl
    | lines => match m, hm, hz with
      | 0, _, hz => cases hz; rfl
      | 1, _, hz => cases hz; rfl
    | nonet => match m, hm, hz with
      | 0, _, hz => cases hz; rfl
      | 1, _, hz => cases hz; rfl
      | 2, _, hz => cases hz; rfl
      | 3, _, hz => cases hz; rfl
  · refine .inl ⟨l2, wordsV, _, .str y.word, rfl, rfl, SqL.of upd_same, by cases y <;> rfl, ?_⟩
    refine ⟨(by decide : 1 ≤ sizeLine), fun l3 hl3 => hq l3 _ ?_ ?_ upd_same⟩
    · have n23 : l3 ≠ l2 := fun e => by
        rw [e, upd_same] at hl3
        cases hl3
      rw [upd_ne n23] at hl3
      have n13 : l3 ≠ l := fun e => by
        rw [e, upd_same] at hl3
        cases hl3
      rw [upd_ne n13, upd_ne n13] at hl3
      exact hl3
    · intro b o hb
      have nb : b ≠ l := ne_of_none hb hl
      have hl2' : H l2 = none := by
        rw [upd_ne (Ne.symm n12), upd_ne (Ne.symm n12)] at hl2
        exact hl2
      have nb2 : b ≠ l2 := ne_of_none hb hl2'
      have n3 : b ≠ l3 := fun e => by
        rw [← e, upd_ne nb2, upd_ne nb, upd_ne nb, hb] at hl3
        cases hl3
      rw [upd_ne n3, upd_ne nb2, upd_ne nb, upd_ne nb]
      exact hb
end G
/-! G10: more words: tuple * int at 0 and 1, text * int, {}, not in a table, min with a default, three comparisons. -/
namespace G
open L2 PySem PySem.Spec PyProof.Rows
theorem tup_mul1 (l : Addr) (items : Array Value) (n : Nat) (dd : Option Addr) (sl : Array (Option Value)) (u : Tok) :
    Meets (Builtin.«tuple.__mul__» ⟨[.ref l, .int 1 u], []⟩) (fun _ R s => s.heap.get? l = some { cls := .type "tuple", dict := dd, data := .seq items n, slots := sl } ∧ R (.ok (.ret (Value.ref l))) s) :=
  .of_wp fun prog w A R s h => by
    obtain ⟨hp, g, d, tk, os⟩ := s
    obtain ⟨hl, h⟩ := h
    have f1 := AutoSeq1.idx_int
    wp_walk using wpAny_loadPart' hl
    exact ⟨_, rfl, h⟩
theorem tup_mul0 (l : Addr) (items : Array Value) (n : Nat) (dd : Option Addr) (sl : Array (Option Value)) (x : Int) (u : Tok) (c0 : (decide (x < -(2 ^ 63)) || decide (x ≥ 2 ^ 63)) = false) (c1 : (items.isEmpty || x == 1) = false) (c2 : (decide (x ≤ 0) || items.isEmpty) = true) :
    Meets (Builtin.«tuple.__mul__» ⟨[.ref l, .int x u], []⟩) (fun _ R s => s.heap.get? l = some { cls := .type "tuple", dict := dd, data := .seq items n, slots := sl } ∧
      R (.ok (.ret (Value.ref s.heap.objs.size))) { s with heap := s.heap.push { cls := Value.type "tuple", data := Data.seq #[] }, toks := s.toks }) :=
  .of_wp fun prog w A R s h => by
    obtain ⟨hp, g, d, tk, os⟩ := s
    obtain ⟨hl, h⟩ := h
    have f1 := AutoSeq1.idx_int
    wp_walk using wpAny_loadPart' hl
    repeat (first
      | (refine wpAny_ite_false (decide_eq_false (by rw [c0]; exact Bool.false_ne_true)) ?_; wp_walk using wpAny_loadPart' hl)
      | (refine wpAny_ite_false (decide_eq_false (by rw [c1]; exact Bool.false_ne_true)) ?_; wp_walk using wpAny_loadPart' hl)
      | (refine wpAny_ite_true (decide_eq_true c2) ?_; wp_walk using wpAny_loadPart' hl))
    exact ⟨_, rfl, h⟩
def rRep01 (K : PySem.W.Frag) : R2 := fun x y H Q => ∃ l k xs, x = .ref l ∧ y = .int k ∧ SqT K H l xs ∧ xs ≠ [] ∧ (k = 0 ∨ k = 1) ∧ (k = 1 → Q (.ref l) H) ∧ (k = 0 → ∀ p, H p = none → Q (.ref p) (upd H p (.tup [])))
theorem op_rep01 {X : Cx} : OpR X (binaryOp .Mult) (rRep01 X.K) := fun pins s σ H x y v u Q I rx ry h => by
  obtain ⟨l, k, xs, rfl, rfl, hT, hne, hk, q1, q0⟩ := h
  cases rx
  obtain ⟨t, rfl⟩ := ry
  obtain ⟨its, r, ⟨⟨cls, dd, data, sl⟩, ho, hc, n, hd⟩, _⟩ := I.tuple hT
  simp only at hc hd
  subst hc hd
  have hi : its.toArray.isEmpty = false := by
    cases r with
    | nil => exact absurd rfl hne
    | cons a b => rfl
  rcases hk with rfl | rfl
  · refine wpAny_binaryOp_repeat_ref (T := "tuple") (U := "int") (by decide) ⟨_, ho, rfl⟩ (fun s' => typeIs_int s' 0 t) noFill_tuple_mul F.fills_int_mul F.slot_int_rmul repeat_tuple F.slot_int_index.lookup
      (call_meets F.slot_int_rmul (typeIs_int s 0 t) F.entry_int_rmul (F.args_int_rmul_2 _ _) (int_rmul_tuple 0 t l its.toArray n dd sl)
        ⟨ho, rfl, ⟨_, ho, rfl⟩, call_meets F.slot_tuple_mul ⟨_, ho, rfl⟩ F.entry_tuple_mul (F.args_tuple_mul_2 _ _) (tup_mul0 l its.toArray n dd sl 0 t (by decide) (by rw [hi]; rfl) rfl) ⟨ho, ?_⟩⟩)
    exact ⟨.ref s.heap.objs.size, _, I.laid (t' := s.toks) (o := .tup []) (fun b ob q => Heap.get?_push_of_some _ q) (Nat.le_refl _) ⟨Nat.zero_le _, [], .nil, IsTup.new _ _⟩, rfl, q0 rfl _ (I.hok.fresh (Nat.le_refl _))⟩
  · refine wpAny_binaryOp_repeat_ref (T := "tuple") (U := "int") (by decide) ⟨_, ho, rfl⟩ (fun s' => typeIs_int s' 1 t) noFill_tuple_mul F.fills_int_mul F.slot_int_rmul repeat_tuple F.slot_int_index.lookup
      (call_meets F.slot_int_rmul (typeIs_int s 1 t) F.entry_int_rmul (F.args_int_rmul_2 _ _) (int_rmul_tuple 1 t l its.toArray n dd sl)
        ⟨ho, rfl, ⟨_, ho, rfl⟩, call_meets F.slot_tuple_mul ⟨_, ho, rfl⟩ F.entry_tuple_mul (F.args_tuple_mul_2 _ _) (tup_mul1 l its.toArray n dd sl t) ⟨ho, ?_⟩⟩)
    exact ⟨.ref l, H, I.tok _, rfl, q1 rfl⟩
end G
namespace G
open L2 PySem PySem.Spec PyProof.Rows
/-! ### text * int -/
def repS (x : Str) (n : Nat) : Str := ⟨(List.replicate n x.cps).foldl (· ++ ·) #[]⟩
theorem fold_size (a : Array Nat) : ∀ (n : Nat) (b : Array Nat), ((List.replicate n a).foldl (· ++ ·) b).size = b.size + n * a.size
  | 0, b => by simp
  | n + 1, b => by
    rw [List.replicate_succ, List.foldl_cons, fold_size a n, Array.size_append, Nat.succ_mul]
    omega
theorem repS_len (x : Str) (n : Nat) : (repS x n).length = n * x.length := by
  show ((List.replicate n x.cps).foldl (· ++ ·) #[]).size = n * x.cps.size
  rw [fold_size]
  simp
def rRepS : R2 := fun x y H Q => ∃ z k, x = .str z ∧ y = .int k ∧ z.length = 1 ∧ 2 ≤ k ∧ k ≤ 100000 ∧ Q (.str (repS z k.toNat)) H
theorem op_repS {X : Cx} : OpR X (binaryOp .Mult) rRepS := fun pins s σ H x y v u Q I rx ry h => by
  obtain ⟨z, k, rfl, rfl, hz, h1, h2, q⟩ := h
  obtain ⟨t, rfl⟩ := rx
  obtain ⟨t2, rfl⟩ := ry
  have e1 : (k == 1 || z.length == 0) = false := by
    rw [hz, beq_eq_false_iff_ne.mpr (show k ≠ 1 by omega)]
    rfl
  refine PySem.P.mul_str (by rw [decide_eq_false (by omega), decide_eq_false (by omega)]; rfl) (fun _ _ => ?_) (fun _ _ => ?_) ?_
  · rw [hz]
    have : (1 : Int) ≤ (2 ^ 63 - 1) / k := Int.le_ediv_of_mul_le (by omega) (by omega)
    show ¬ ((1 : Nat) : Int) > _
    omega
  · unfold Builtin.Str.tooLong
    rw [hz, sizeLine_eq]
    exact decide_eq_false (by omega)
  · rw [if_neg (by omega), if_neg (by rw [e1]; exact Bool.false_ne_true)]
    refine ⟨?_, .str (repS z k.toNat), H, I.tok _, ⟨s.toks, rfl⟩, q⟩
    show (repS z k.toNat).length ≤ sizeLine
    rw [repS_len, hz, sizeLine_eq]
    omega
/-! ### * -/
def opMulX (c : Bool) : D → D → M D
  | .tup xs, .int k => if (!xs.isEmpty && (decide (xs.length ≤ 1000) && decide (0 ≤ k ∧ k ≤ 1000))) = true then M.ret (.tup (List.replicate k.toNat xs).flatten) else M.no
  | .str x, .int k => if (decide (x.length = 1) && decide (2 ≤ k ∧ k ≤ 100000)) = true then M.ret (.str (repS x k.toNat)) else M.no
  | d, e => opMul c d e
def rMulX (K : PySem.W.Frag) : R2 := fun x y H Q => rMulA x y H Q ∨ (fun x y H Q => rRepT K x y H Q ∨ (fun x y H Q => rRep01 K x y H Q ∨ rRepS x y H Q) x y H Q) x y H Q
theorem op_mulX {X : Cx} : OpR X (binaryOp .Mult) (rMulX X.K) := OpR.or op_mulA (OpR.or op_repT (OpR.or op_rep01 op_repS))
theorem od_mulX {K : PySem.W.Frag} {ct : Ct} (c : Bool) : OpD K ct (rMulX K) (opMulX c) := fun W n F H as cs x y d e Q ok hx hy h => by
  unfold opMulX at h
  split at h
  · split at h
    · rename_i xs k q
      cases hy
      cases hx with
      | tup t l =>
        obtain ⟨q1, q2⟩ := Bool.and_eq_true_iff.mp q
        obtain ⟨q3, q4⟩ := Bool.and_eq_true_iff.mp q2
        have q3 := of_decide_eq_true q3
        obtain ⟨k0, k1⟩ := of_decide_eq_true q4
        have hne : xs ≠ [] := fun e => by
          rw [e] at q1
          cases q1
        have hne2 : ¬ (_ : List V) = [] := fun e => hne (l.nil_iff.mp e)
        by_cases h2 : 2 ≤ k
        · exact .inr (.inl ⟨_, _, _, rfl, rfl, SqT.of (ok.fh _ _ t), hne2, h2, k1, by rw [l.length]; exact q3, new_tup ok l.flat h⟩)
        · refine .inr (.inr (.inl ⟨_, _, _, rfl, rfl, SqT.of (ok.fh _ _ t), hne2, by omega, fun e => ?_, fun e p hp => ?_⟩))
          · subst e
            have e2 : (List.replicate (1 : Int).toNat xs).flatten = xs := by simp
            rw [e2] at h
            exact end_ok ok (.tup t l) h
          · subst e
            exact new_tup ok .nil h p hp
    · exact False.elim h
  · split at h
    · rename_i z k q
      cases hx
      cases hy
      obtain ⟨q1, q2⟩ := Bool.and_eq_true_iff.mp q
      obtain ⟨k0, k1⟩ := of_decide_eq_true q2
      exact .inr (.inr (.inr ⟨_, _, rfl, rfl, of_decide_eq_true q1, k0, k1, end_ok ok (.str _) h⟩))
    · exact False.elim h
  · exact .inl (od_mul c W n F H as cs x y _ _ Q ok hx hy h)
/-! ### {} -/
section
variable {X : Cx} {ct : Ct} {W : WX} {a : Expr} {ma : En → M D} {pos p : Pos}
theorem ge_dic : PE X (.Dict [] [] pos) (tD X.K ct W (xC .dic)) := PE.imp pe_dnewK (by
  rintro σ H Q ⟨F, as, env, cs, ok, sl, h⟩ l hl
  exact h _ _ as (gro_new _ ok hl) (ok_new _ ok hl) _ (.dic upd_same))
/-! ### not in a table of texts -/
def opNotK (ks : List Str) : D → M D := fun d => match flatV? d with
  | some v => M.ret (.bl (!inV v (ks.map V.str)))
  | none => M.no
theorem all_flat : ∀ ks : List Str, (ks.map V.str).all flatV = true
  | [] => rfl
  | _ :: r => by
    rw [List.map_cons, List.all_cons, all_flat r]
    rfl
theorem notK_of {K : PySem.W.Frag} {ks : List Str} {t : Addr} (hT : ∀ H, SqT K H t (ks.map V.str)) {σ : L2.St} {H : Hp} {Q : VK} (h : tD K ct W (xUn (opNotK ks) ma) σ H Q) : tOp (rIn K true) (tD K ct W ma) (tC (.ref t)) σ H Q := by
  obtain ⟨F, as, env, cs, ok, sl, h⟩ := h
  refine ⟨F, as, env, cs, ok, sl, out_imp (out_bnd h) fun d cs1 F1 H1 as1 g ok1 h1 v hv => ?_⟩
  unfold opNotK at h1
  cases e : flatV? d with
  | some u =>
    rw [e] at h1
    obtain ⟨rfl, f⟩ := flatV_eq hv e
    exact ⟨t, _, rfl, .inr (hT H1), f, all_flat ks, end_ok ok1 (.bl _) h1⟩
  | none =>
    rw [e] at h1
    exact False.elim h1
theorem ge_notKind {ks : List Str} {x : Str} (hm : ∃ t, X.mg x = some (.ref t) ∧ ∀ H, SqT X.K H t (ks.map V.str)) (hg : Gl X x) (ha : PE X a (tD X.K ct W ma)) (hd : (x == ("__debug__" : Str)) = false := by decide) (hb : behindInMarks .NotIn (.Name x p) = false := by rfl) :
    PE X (.Compare a [.NotIn] [.Name x p] pos) (tD X.K ct W (xUn (opNotK ks) ma)) := by
  obtain ⟨t, hm, hT⟩ := hm
  exact PE.imp (pe_cmpR op_notIn_seq ha (pe_glob (v := .ref t) hg hm rfl hd) hb) fun _ _ _ => notK_of hT
theorem gt_notKind {ks : List Str} {x : Str} (hm : ∃ t, X.mg x = some (.ref t) ∧ ∀ H, SqT X.K H t (ks.map V.str)) (hg : Gl X x) (ha : PE X a (tD X.K ct W ma)) (hd : (x == ("__debug__" : Str)) = false := by decide) (hb : behindInMarks .NotIn (.Name x p) = false := by rfl) :
    PT X (.Compare a [.NotIn] [.Name x p] pos) (tT X.K ct W (bVal (xUn (opNotK ks) ma))) := by
  obtain ⟨t, hm, hT⟩ := hm
  exact PT.imp (pt_cmpR op_notIn_seq ha (pe_glob (v := .ref t) hg hm rfl hd) hb) fun _ _ _ h => notK_of hT (bv_of h)
end
end G
/-! G11: BadNet: made, raised, asked for its class and its at. -/
namespace G
open L2 PySem PySem.Spec PyProof.Rows
/-! ### NetError.__init__(self, ..) -/
structure NeC (K : PySem.W.Frag) (ne : Addr) : Prop where
  hsp : PySem.W.specialIn K (.ref ne) "__getattribute__" = some (some (.builtin "type.__getattribute__"))
  rd : PySem.W.readsIn K ne (.type "type") = true
  fc : PySem.W.findCls K (.ref ne) (.type "type") "__init__" = some (.val (.builtin "ValueError.__init__"))
section
variable {X : Cx} {e : Expr} {es : List Expr} {ta : TA} {p1 p2 pos : Pos} {ne : Addr}
theorem pe_initO {pl : Sem Bool} (N : NeC X.K ne) (hg : Gl X "NetError") (hm : X.mg "NetError" = some (.ref ne)) (ha : PA X (e :: es) ta)
    (hc : eval (.Call (.Attribute (.Name "NetError" p1) "__init__" p2) (e :: es) [] pos) X.env = (do
      let ov ← eval (.Name "NetError" p1) X.env
      standAt p2.atName
      let (f, first) ← holding [ov] (getMethod ov "__init__" pl)
      callWith pos f first (backTo pos (starEach (e :: es) X.env)) (backToKw pos (keywordEach [] X.env))) := by rfl)
    (he : starEach (e :: es) X.env = (false, eval e X.env) :: starEach es X.env := by rfl) (hpl : (backTo pos (starEach es X.env)).any (·.1) = false := by rfl) : PE X (.Call (.Attribute (.Name "NetError" p1) "__init__" p2) (e :: es) [] pos) (tVeI X.K ta) := by
  refine ⟨fun pins s σ H Q I h => PySem.W.methodCall_KW (ld_glob I hg hm ?_ (by decide)) hc⟩
  refine PySem.W.method_cls I.kIn N.hsp (PySem.W.cls_value I.kIn N.rd N.fc (by decide +kernel) ?_)
  show wpAny _ _ (callWith pos (Value.builtin "ValueError.__init__") [] (backTo pos (starEach (e :: es) X.env)) []) _ _ _
  refine PyProof.Rows.callWith_method1 (thn (ha.run pos pins _ σ H _ (I.tok _) h) fun us s1 hh => ?_) he hpl
  obtain ⟨vs, H1, I1, r1, a, C, ws, rfl, hl, T, ea, q⟩ := hh
  cases r1 with
  | cons ra rw =>
    cases ra
    exact oinit_ok T I1 ea (by rw [← Paired.length rw, sizeLine_eq]; omega) fun s' J => ⟨.non, H1, J, rfl, q⟩
end
/-! ### __class__ of an error with a dict -/
theorem kin_classD {prog : Program} {w : World} {A : Around} {E : Value → Shared → Prop} {s : Shared} {K : PySem.W.Frag} {x D : Addr} {ox od : Obj} {Q : Option Value → Shared → Prop} (C : ExcC K D) (X : K.In s.heap) (I : PySem.W.InstAt s.heap x ox D (some od)) (h : Q (some (.ref D)) { s with toks := s.toks + 1 }) : wpAny (model prog w) A (getAttr? (.ref x) "__class__") Q E s := by
  have hf : PySem.W.findObj K D (some od) "__class__" = some (.bind (.builtin "getset_descriptor.__get__") (.builtin "object.__class__")) := PySem.W.findObj_data (by obtain ⟨cd, hc, _⟩ := PySem.W.any_some C.hd; rw [hc]; rfl) C.ha C.hn C.ht
  obtain ⟨hp, g, d, t, os⟩ := s
  have L0 := I.type (M := model prog w)
  have L1 := PySem.W.looks_findIn (M := model prog w) X C.hg
  have L2 := PySem.W.looks_findIn (M := model prog w) X C.hk
  have L3 := PySem.W.looks_find (M := model prog w) X I hf
  have sub : PySem.W.Looks (model prog w) hp (isInstance (.ref x) (.type "BaseException")) true := L0.andThen (PySem.W.looks_subIn X C.hs)
  have b0 : (false && onTheHeap (Value.builtin "BaseException.__getattribute__")) = false := rfl
  have b1 : (onTheHeap (Value.ref D) && Value.builtin "BaseException.__getattribute__" == Value.builtin "object.__getattribute__") = false := by
    rw [show (Value.builtin "BaseException.__getattribute__" == Value.builtin "object.__getattribute__") = false by decide +kernel]
    rfl
  unfold getAttr? getAttrBy? getAttrBy
  refine wpAny_bind (wpAny_mkText (wpAny_bind (wpAny_attempt (wpAny_holding (wpAny_bind (L0.at (wpAny_bind (L1.at ?_))))))))
  show wpAny _ _ (if (onTheHeap (Value.ref D) && Value.builtin "BaseException.__getattribute__" == Value.builtin "object.__getattribute__") = true then _ else _) _ _ _
  rw [b1, if_neg Bool.false_ne_true]
  unfold getAttrByItsOwn hookBefore
  refine wpAny_bind ?_
  rw [if_pos (show onTheHeap (Value.ref D) = true from rfl)]
  refine L2.at (wpAny_bind (wpAny_attempt (wpAny_holding ?_)))
  unfold callGetattribute
  rw [b0, if_neg Bool.false_ne_true]
  unfold boundAndCalled
  rw [PySem.F.excAttr_ValueError.ga.bind (.ref x)]
  refine wpAny_bind (wpAny_pure ?_)
  show wpAny _ _ (call (.builtin "BaseException.__getattribute__") [.ref x, .str "__class__" t]) _ _ _
  refine wpAny_call (codeAny_call_builtin PySem.F.excAttr_ValueError.ga.plain PySem.F.entry_bexc_ga (@PySem.W.check_slot (model prog w) _ _ ⟨hp, g, d, t + 1, os⟩ "BaseException.__getattribute__" "BaseException" "__getattribute__" (.ref x) [.str "__class__" t] [] _ (by decide +kernel) (by decide +kernel) sub (PySem.F.args_bexc_ga (.ref x) (.str "__class__" t)) ?_))
  unfold Builtin.«object.__getattribute__»
  refine wpAny_bind (wpAny_of_eq (a := ((Value.ref x : Value), [Value.str "__class__" t])) (by first | rfl | (simp only [slotArgs]; rfl)) (wpAny_bind (wpAny_pure (wpAny_bind (L0.at (wpAny_bind (L3.at ?_)))))))
  show wpAny _ _ (holding [Value.builtin "object.__class__"] (call (.builtin "getset_descriptor.__get__") [.builtin "object.__class__", .ref x, .ref D]) >>= ret) _ _ _
  refine wpAny_bind (wpAny_holding (wpAny_call (PySem.W.class_get (s := ⟨hp, g, d, t + 1, os⟩) (ox := ox) (od := some od) X I C.hm (wpAny_pure ?_))))
  show wpAny _ _ (handedOut (.ref D)) _ _ _
  rw [PySem.W.handedOut_of (v := .ref D) rfl]
  first
    | exact wpAny_pure (wpAny_pure h)
    | exact wpAny_pure h
    | exact wpAny_pure (wpAny_bind (wpAny_pure (wpAny_pure h)))
theorem kitx_D {K : PySem.W.Frag} {x D : Addr} {ox od : Obj} (C : ExcC K D) : PySem.W.KitX K (.ref x) (.ref D) (fun h => PySem.W.InstAt h x ox D (some od)) where
  ty := fun _ _ _ I => I.type
  it := fun M h X _ => by
    obtain ⟨cd, hc, _⟩ := PySem.W.any_some C.hd
    unfold PySem.W.clsIn at hc
    split at hc
    · rename_i ho
      intro A' Q' E' s' k' q'
      unfold isType loadHead
      exact wpAny_bind (wpAny_loadPart (k' _ _ (X _ _ ho)) (wpAny_pure q'))
    · cases hc
  ne := fun h tp dd its n sl X htp => (PySem.W.handS_kitx_exc (K := K) (x := x) (ox := ox) C.hg C.hk C.hs C.hd C.ha C.hn C.ht C.hm).ne h tp dd its n sl X htp
  ca := fun X I k => kin_classD C X I k
/-! ### BadNet's own __init__ -/
def spInit (K : PySem.W.Frag) (C : Addr) : Sp := fun vs H Q _ => ∃ a v, vs = [.ref a, v] ∧ OexC K C ∧ PySem.W.findIn K (.ref C) "at" = some none ∧ H a = some (exo a C none) ∧ ∀ dx, H dx = none → dx ≠ a → Q .non (upd (upd H dx (exd dx [(PySem.Str.ofString "at", v)])) a (exo a C (some dx)))
def tInit (K : PySem.W.Frag) : TS := tSeq (tDrop (tVeI K (tCons (tVar 0) (tCons (tC (.str (PySem.Str.ofString "no net"))) tNil)))) (tOst K "at" (tVar 0) (tVar 1))
theorem init_wish {K : PySem.W.Frag} {C : Addr} {vs : List V} {H : Hp} {Q : VK} {E : XK} (h : spInit K C vs H Q E) : tInit K { nx := fun _ H' => Q .non H', rt := Q } (L2.start ["self", "at"] vs) H := by
  obtain ⟨a, v, rfl, T, hno, ha, hq⟩ := h
  refine ⟨.ref a, rfl, a, C, _, rfl, (by decide : 1 ≤ 1000), T, ha, ?_⟩
  exact ⟨v, rfl, .ref a, rfl, a, C, rfl, T, hno, .inl ⟨ha, fun dx n ne => hq dx n ne⟩⟩
/-- all that BadNet(..) leans on -/
structure Nt (P : Program) (w : World) (K : PySem.W.Frag) (mg : Str → Option Value) (base : Heap) (ct : Ct) : Prop where
  oex : OexC K ct.net
  hno : PySem.W.findIn K (.ref ct.net) "at" = some none
  ini : ∃ fI fd, PySem.W.findIn K (.ref ct.net) "__init__" = some (some (.ref fI)) ∧ PySem.W.typeIn K (.ref fI) = some (.type "function") ∧ L2.Binds K fd ["self", "at"] [] ∧ FnP P w K mg base 1 fI fd ["self", "at"] (spInit K ct.net)
  mgN : mg "BadNet" = some (.ref ct.net)
def sRaiseNet (m : En → M D) : En → M Fl := fun env => M.bnd (m env) fun d => match d with
  | .non => M.thr (.net none)
  | .int i => M.thr (.net (some i))
  | _ => M.no
theorem gs_raiseNet {X : Cx} {ct : Ct} {W : WX} {k : Nat} {e : Expr} {ma : En → M D} {p p3 pos : Pos} (N : Nt X.prog X.w X.K X.mg X.base ct) (hc : X.calm = true) (hr : Room k X.A) (hk : 2 ≤ k) (tk : Takes X W) (hg : Gl X "BadNet") (ha : PE X e (tD X.K ct W ma)) (he : starEach [e] X.env = (false, eval e X.env) :: starEach [] X.env := by rfl) :
    PS X (.Raise (some (.Call (.Name "BadNet" p) [e] [] p3)) none pos) (tS X.K ct W (sRaiseNet ma)) := by
  obtain ⟨fI, fd, h1, h2, h3, F1⟩ := N.ini
  refine PS.imp (ps_raise hc tk (pmk_oex (ds := []) (dvs := []) N.oex h1 h2 F1 (hr.mono hk) h3 .nil (fun pins σ H s er s' I z => ?_) hg N.mgN (pa_cons ha pa_nil he) (by decide) he rfl)) ?_
  · obtain ⟨_, _, _, _, _, _, _, _, _, _, _, _, z⟩ := z
    exact z.elim
  · rintro D σ H ⟨F, as, env, cs, ok, sl, h⟩
    refine ⟨F, as, env, cs, ok, sl, out_imp (out_bnd h) fun d cs1 F1 H1 as1 g ok1 h4 v hv => ?_⟩
    refine ⟨(by decide : 1 ≤ 1000), fun a hn => ⟨a, v, rfl, N.oex, N.hno, upd_same, fun dx hdx ne => ⟨rfl, dx, [(PySem.Str.ofString "at", v)], upd_same, ?_, ?_, ?_⟩⟩⟩
    · rw [upd_ne ne, upd_same]
    · rw [upd_ne ne] at hdx
      exact hdx
    · have hdx1 : H1 dx = none := by
        rw [upd_ne ne] at hdx
        exact hdx
      have eH : upd (del (upd (upd (upd H1 a (exo a ct.net none)) dx (exd dx [(PySem.Str.ofString "at", v)])) a (exo a ct.net (some dx))) a) dx (.xd [(PySem.Str.ofString "at", v)]) = upd H1 dx (.xd [(PySem.Str.ofString "at", v)]) := by
        funext b
        by_cases hb : b = dx
        · rw [hb, upd_same, upd_same]
        · rw [upd_ne hb, upd_ne hb]
          by_cases hba : b = a
          · rw [hba, del_same, hn]
          · rw [del_ne hba, upd_ne hba, upd_ne hb, upd_ne hba]
      rw [eH]
      have fin : ∀ o : Option Int, v = atV o → out X.K ct W σ.length F1 H1 as1 (M.thr (α := Fl) (.net o) cs1) (oS X.K σ.length D) → W (.ref ct.net) (some dx) σ (upd H1 dx (.xd [(PySem.Str.ofString "at", v)])) := fun o ev h5 => by
        subst ev
        exact h5 (.ref ct.net) (some dx) σ F1 _ as1 rfl (gro_out _ ok1 hdx1) (ok_out _ ok1 hdx1) ⟨rfl, dx, _, rfl, upd_same, by simp [List.lookup]⟩
      split at h4
      · cases hv
        exact fin none rfl h4
      · rename_i i
        cases hv
        exact fin (some i) rfl h4
      · exact False.elim h4
end G
/-! G12: the law's word for any of the five errors. -/
namespace G
open L2 PySem PySem.Spec PyProof.Rows
/-- what is known of BadNet's class -/
structure XtN (K : PySem.W.Frag) (ct : Ct) (ne : Addr) : Prop where
  ex : ExcC K ct.net
  is4 : ∀ z : X4, PySem.W.kitOne K (.ref ct.net) (.ref (ct.at4 z)) = some false
  isN : PySem.W.kitOne K (.ref ct.net) (.ref ct.net) = some true
  isV : PySem.W.kitOne K (.ref ct.net) (.type "ValueError") = some true
  em : PySem.W.exmOne K (.ref ct.net) (.ref ne) = some true
  hno : PySem.W.findIn K (.ref ct.net) "at" = some none
/-- an error's own dict stands -/
def Dd (H : Hp) (dd : Addr) (o : Option Int) : Prop := ∃ fs, H dd = some (.xd fs) ∧ fs.lookup (PySem.Str.ofString "at") = some (atV o)
def tEd (i : Nat) (a dd : Addr) (o : Option Int) (b : Bool) : TE := fun σ H Q => σ[i]? = some (some (.ref a)) ∧ Dd H dd o ∧ Q (.bl b) H
theorem call_isXD {X : Cx} {p : Addr × Obj} {D dd : Addr} (C : ExcC X.K D) (hp : p ∈ X.pn) (hz : Zc (.ref D) (some dd) p.2) (hf : ∃ vs, p.2.data = .fields vs) : CallR X (.builtin "isinstance") (fun xs H Q => (∃ fs, H dd = some (.xd fs)) ∧ rIsE X.K D p.1 xs H Q) := fun pins s σ H xs us Q I r h => by
  obtain ⟨⟨fs, hfs⟩, c, cv, b, rfl, hcv, e, q⟩ := h
  obtain ⟨x1, x2, rfl, r1, r2⟩ := vals2 r
  cases r1
  cases hcv _ r2
  obtain ⟨vs, hv⟩ := hf
  obtain ⟨z1, z2⟩ := hz
  have hx : ObjOk X.prog X.w H s.heap dd (.xd fs) := I.hok dd _ hfs
  obtain ⟨mA, hns, _⟩ := hx
  obtain ⟨od, ho, _⟩ := lookIn_ns hns
  have J : PySem.W.InstAt s.heap p.1 p.2 D (some od) := ⟨(I.pin p (List.mem_append_left _ hp)).1, z1, by unfold PySem.W.notCls; rw [hv] <;> rfl, by rw [z2]; exact ho⟩
  exact PySem.W.kia_one (kitx_D C) I.kIn J e (fun z => nomatch z) fun tk => ⟨.bl b, H, I.kept (t' := tk) fun _ _ z => z, rfl, q⟩
section
variable {X : Cx} {D c dd : Addr} {pn : Addr × Obj} {e : Expr} {x : Str} {p p2 pos : Pos} {i : Nat} {b : Bool} {o : Option Int}
theorem pe_dOwn (C : ExcC X.K D) (hp : pn ∈ X.pn) (hz : Zc (.ref D) (some dd) pn.2) (hf : ∃ vs, pn.2.data = .fields vs) (hI : X.mg "isinstance" = none) (hm : X.mg x = some (.ref c)) (k : PySem.W.kitOne X.K (.ref D) (.ref c) = some b) (he : PE X e (tVar i)) (hgI : Gl X "isinstance") (hg : Gl X x) (hd : (x == ("__debug__" : Str)) = false := by decide)
    (h1 : starEach [e, .Name x p2] X.env = (false, eval e X.env) :: starEach [.Name x p2] X.env := by rfl) (h2 : starEach [.Name x p2] X.env = (false, eval (.Name x p2) X.env) :: starEach [] X.env := by rfl) (hpl : (backTo pos (starEach [.Name x p2] X.env)).any (·.1) = false := by rfl) :
    PE X (.Call (.Name "isinstance" p) [e, .Name x p2] [] pos) (tEd i pn.1 dd o b) := PE.imp (pe_callB (call_isXD C hp hz hf) hgI hI (by decide +kernel) (pa_cons he (pa_cons (pe_glob (v := .ref c) hg hm rfl hd) pa_nil h2) h1) (by decide) (by decide) h1 hpl) fun σ H Q h => ⟨_, h.1, ⟨h.2.1.choose, h.2.1.choose_spec.1⟩, .ref c, .ref c, b, rfl, fun _ r => r, k, h.2.2⟩
theorem pe_dVal (C : ExcC X.K D) (hp : pn ∈ X.pn) (hz : Zc (.ref D) (some dd) pn.2) (hf : ∃ vs, pn.2.data = .fields vs) (hI : X.mg "isinstance" = none) (hm : X.mg "ValueError" = none) (k : PySem.W.kitOne X.K (.ref D) (.type "ValueError") = some b) (he : PE X e (tVar i)) (hgI : Gl X "isinstance") (hg : Gl X "ValueError")
    (h1 : starEach [e, .Name "ValueError" p2] X.env = (false, eval e X.env) :: starEach [.Name "ValueError" p2] X.env := by rfl) (h2 : starEach [.Name "ValueError" p2] X.env = (false, eval (.Name "ValueError" p2) X.env) :: starEach [] X.env := by rfl) (hpl : (backTo pos (starEach [.Name "ValueError" p2] X.env)).any (·.1) = false := by rfl) :
    PE X (.Call (.Name "isinstance" p) [e, .Name "ValueError" p2] [] pos) (tEd i pn.1 dd o b) := PE.imp (pe_callB (call_isXD C hp hz hf) hgI hI (by decide +kernel) (pa_cons he (pa_cons (pe_bltn (v := .ty "ValueError") hg hm (by decide +kernel) rfl) pa_nil h2) h1) (by decide) (by decide) h1 hpl) fun σ H Q h => ⟨_, h.1, ⟨h.2.1.choose, h.2.1.choose_spec.1⟩, .ty "ValueError", .type "ValueError", b, rfl, fun _ r => r, k, h.2.2⟩
/-- e.at -/
def tAt (i : Nat) (a dd : Addr) (o : Option Int) : TE := fun σ H Q => σ[i]? = some (some (.ref a)) ∧ Dd H dd o ∧ Q (atV o) H
theorem pe_at (C : ExcC X.K D) (hno : PySem.W.findIn X.K (.ref D) "at" = some none) (hp : pn ∈ X.pn) (hz : Zc (.ref D) (some dd) pn.2) (hf : ∃ vs, pn.2.data = .fields vs) (he : PE X e (tVar i)) (hb : attributeBase e "at" X.env (eval e X.env) = eval e X.env := by rfl) : PE X (.Attribute e "at" pos) (tAt i pn.1 dd o) := by
  refine ⟨fun pins s σ H Q I h => attr_of hb (thn (he.run pins s σ H (fun x H1 => x = .ref pn.1 ∧ Dd H1 dd o ∧ Q (atV o) H1) I ⟨_, h.1, rfl, h.2⟩) fun u s1 hh => ?_)⟩
  obtain ⟨x, H1, I1, rx, rfl, ⟨fs, hfs, hl⟩, q⟩ := hh
  cases rx
  obtain ⟨vs, hd⟩ := hf
  obtain ⟨z1, z2⟩ := hz
  obtain ⟨mA, hns, hr⟩ := (show ObjOk X.prog X.w H1 s1.heap dd (.xd fs) from I1.hok dd _ hfs)
  obtain ⟨od, ho, hk⟩ := lookIn_ns hns
  obtain ⟨u, hu, ru⟩ := RelO.some_of (v := atV o) (o := mA (PySem.Str.ofString "at")) (by rw [← hl]; exact hr _)
  have J : PySem.W.InstAt s1.heap pn.1 pn.2 D (some od) := ⟨(I1.pin pn (List.mem_append_left _ hp)).1, z1, by unfold PySem.W.notCls; rw [hd] <;> rfl, by rw [z2]; exact ho⟩
  exact HandSPX.exc_get I1.kIn J C.hg C.hk C.hs (PySem.W.findObj_own C.hd hno rfl (by rw [hk, hu])) (handed_of ru) ⟨_, H1, I1.tok _, ru, q⟩
end
/-- what nobody reaches -/
theorem pe_never {X : Cx} {e : Expr} : PE X e (fun _ _ _ => False) := ⟨fun _ _ _ _ _ _ h => h.elim⟩
theorem pt_never {X : Cx} {e : Expr} : PT X e (fun _ _ _ => False) := ⟨fun _ _ _ _ _ _ h => h.elim⟩
theorem pw_never {X : Cx} {e : Expr} : PW X e (fun _ _ _ => False) := ⟨fun _ _ _ _ _ _ _ h => h.elim⟩
theorem pss_never {X : Cx} {e : List Stmt} : PSs X e (fun _ _ _ => False) := ⟨fun _ _ _ _ _ _ h => h.elim⟩
theorem ps_never {X : Cx} {e : Stmt} : PS X e (fun _ _ _ => False) := ⟨fun _ _ _ _ _ _ h => h.elim⟩
end G
/-! G13: the second word, for any of the five errors. -/
namespace G
open L2 PySem PySem.Spec PyProof.Rows
theorem pe_atBool {X : Cx} {D dd : Addr} {pn : Addr × Obj} {e : Expr} {p p2 pos : Pos} {i : Nat} {o : Option Int} (hI : X.mg "isinstance" = none) (hB : X.mg "bool" = none) (ha : PE X e (tAt i pn.1 dd o)) (hgI : Gl X "isinstance") (hg : Gl X "bool")
    (h1 : starEach [e, .Name "bool" p2] X.env = (false, eval e X.env) :: starEach [.Name "bool" p2] X.env := by rfl) (h2 : starEach [.Name "bool" p2] X.env = (false, eval (.Name "bool" p2) X.env) :: starEach [] X.env := by rfl) (hpl : (backTo pos (starEach [.Name "bool" p2] X.env)).any (·.1) = false := by rfl) :
    PE X (.Call (.Name "isinstance" p) [e, .Name "bool" p2] [] pos) (tEd i pn.1 dd o false) := PE.imp (pe_callB call_isi hgI hI (by decide +kernel) (pa_cons ha (pa_cons (pe_bltn (v := .ty "bool") hg hB (by decide +kernel) rfl) pa_nil h2) h1) (by decide) (by decide) h1 hpl) (by
  rintro σ H Q ⟨h1, h2, h3⟩
  refine ⟨h1, h2, atV o, .ty "bool", ?_⟩
  cases o with
  | none => exact ⟨.type (tyN .non), .type Ty.bool.nm, false, rfl, .ty _, .base .non, kit_ty (kit_isD .bool .non), h3⟩
  | some j => exact ⟨.type (tyN (.int j)), .type Ty.bool.nm, false, rfl, .ty _, .base (.int j), kit_ty (kit_isD .bool (.int j)), h3⟩)
/-- what the second word's def does with an error of one of the four -/
def tWord4 (K : PySem.W.Frag) (a : Addr) (y : X4) : TS :=
  tSeq (tAsg (tLst (tCons (tEb 0 a (y.eqb .kind)) (tCons (tEb 0 a (y.eqb .thing)) (tCons (tEb 0 a (y.eqb .lines)) (tCons (tEb 0 a false) tNil))))) (gName 1))
    (tSeq (tDrop (tBM K "list" rAppend (tVar 1) (tCons (tEb 0 a (y.eqb .nonet)) tNil)))
      (tSeq (tIfS (tOr (tTest (tOp rNe (tBM K "list" (rCntF K) (tVar 1) (tCons (tC (V.bl true)) tNil)) (tC (V.int 1)))) (tNot (tB (tEb 0 a true)))) (tRet (tLst (tCons (tC (V.str (PySem.Str.ofString "other"))) tNil))) tNext)
        (tSeq (tIfS (tAnd (tB (tEb 0 a false)) (fun _ _ _ => False)) (fun _ _ _ => False) tNext)
          (tRet (tLst (tCons (tOp (rIx K) (tLst (tCons (tC (.str (PySem.Str.ofString "kind"))) (tCons (tC (.str (PySem.Str.ofString "thing"))) (tCons (tC (.str (PySem.Str.ofString "lines"))) (tCons (tC (.str (PySem.Str.ofString "net"))) (tCons (tC (.str (PySem.Str.ofString "none"))) tNil)))))) (tBM K "list" (rIndex K) (tVar 1) (tCons (tC (V.bl true)) tNil))) tNil))))))
theorem word_wish4 {K : PySem.W.Frag} {a : Addr} {y : X4} {H : Hp} {Q : VK} (hq : ∀ l H', H l = none → Ext H H' → H' l = some (.lst [.str y.word]) → Q (.ref l) H') : tWord4 K a y { nx := fun _ H' => Q .non H', rt := Q } (L2.start ["_law_e", "_law_mine"] [.ref a]) H := by
  refine ⟨rfl, rfl, rfl, rfl, (by decide : 4 ≤ sizeLine), fun l hl => ?_⟩
  refine ⟨.ref l, rfl, .inl ⟨rfl, _, SqL.of upd_same⟩, rfl, l, _, _, rfl, rfl, upd_same, (by decide : 4 < sizeLine), ?_⟩
  refine ⟨.ref l, rfl, .inl ⟨rfl, _, SqL.of upd_same⟩, l, _, .bl true, rfl, rfl, SqL.of upd_same, rfl, by cases y <;> rfl, by cases y <;> rfl, false, by cases y <;> rfl, ?_⟩
  refine (if_neg Bool.false_ne_true).mpr ?_
  refine ⟨rfl, true, rfl, ?_⟩
  refine (if_neg Bool.false_ne_true).mpr ?_
  refine ⟨rfl, false, rfl, ?_⟩
  refine (if_neg Bool.false_ne_true).mpr ?_
  refine (if_neg Bool.false_ne_true).mpr ?_
  refine ⟨by decide, fun l2 hl2 => ?_⟩
  have n12 : l ≠ l2 := fun e => by
    rw [← e, upd_same] at hl2
    cases hl2
  refine ⟨.ref l, rfl, .inl ⟨rfl, _, SqL.of (by rw [upd_ne n12]; exact upd_same)⟩, l, _, .bl true, y.at5, .bl true, rfl, rfl, SqL.of (by rw [upd_ne n12]; exact upd_same), rfl, by cases y <;> rfl, by cases y <;> rfl, rfl, ?_, ?_⟩
  · intro m z hm hz
    cases y with
    | kind => exact absurd hm (by simp [X4.at5])
    | thing => match m, hm, hz with
      | 0, _, hz => cases hz; rfl
    | lines => match m, hm, hz with
      | 0, _, hz => cases hz; rfl
      | 1, _, hz => cases hz; rfl
    | nonet => match m, hm, hz with
      | 0, _, hz => cases hz; rfl
      | 1, _, hz => cases hz; rfl
      | 2, _, hz => cases hz; rfl
      | 3, _, hz => cases hz; rfl
  · refine .inl ⟨l2, wordsV, _, .str y.word, rfl, rfl, SqL.of upd_same, by cases y <;> rfl, ?_⟩
    refine ⟨(by decide : 1 ≤ sizeLine), fun l3 hl3 => hq l3 _ ?_ ?_ upd_same⟩
    · have n23 : l3 ≠ l2 := fun e => by
        rw [e, upd_same] at hl3
        cases hl3
      rw [upd_ne n23] at hl3
      have n13 : l3 ≠ l := fun e => by
        rw [e, upd_same] at hl3
        cases hl3
      rw [upd_ne n13, upd_ne n13] at hl3
      exact hl3
    · intro b o hb
      have nb : b ≠ l := ne_of_none hb hl
      have hl2' : H l2 = none := by
        rw [upd_ne (Ne.symm n12), upd_ne (Ne.symm n12)] at hl2
        exact hl2
      have nb2 : b ≠ l2 := ne_of_none hb hl2'
      have n3 : b ≠ l3 := fun e => by
        rw [← e, upd_ne nb2, upd_ne nb, upd_ne nb, hb] at hl3
        cases hl3
      rw [upd_ne n3, upd_ne nb2, upd_ne nb, upd_ne nb]
      exact hb
/-- .. with BadNet's -/
def tWordN (K : PySem.W.Frag) (a dd : Addr) (o : Option Int) : TS :=
  tSeq (tAsg (tLst (tCons (tEd 0 a dd o false) (tCons (tEd 0 a dd o false) (tCons (tEd 0 a dd o false) (tCons (tEd 0 a dd o true) tNil))))) (gName 1))
    (tSeq (tDrop (tBM K "list" rAppend (tVar 1) (tCons (tEd 0 a dd o false) tNil)))
      (tSeq (tIfS (tOr (tTest (tOp rNe (tBM K "list" (rCntF K) (tVar 1) (tCons (tC (V.bl true)) tNil)) (tC (V.int 1)))) (tNot (tB (tEd 0 a dd o true)))) (tRet (tLst (tCons (tC (V.str (PySem.Str.ofString "other"))) tNil))) tNext)
        (tSeq (tIfS (tAnd (tB (tEd 0 a dd o true)) (tNot (tB (tEd 0 a dd o false)))) (tRet (tLst (tCons (tC (.str (PySem.Str.ofString "net"))) (tCons (tAt 0 a dd o) tNil)))) tNext) (fun _ _ _ => False))))
theorem Dd.ext {H H' : Hp} {dd : Addr} {o : Option Int} (h : Dd H dd o) (e : Ext H H') : Dd H' dd o := by
  obtain ⟨fs, h1, h2⟩ := h
  exact ⟨fs, e dd _ h1, h2⟩
theorem word_wishN {K : PySem.W.Frag} {a dd : Addr} {o : Option Int} {H : Hp} {Q : VK} (hd : Dd H dd o) (hq : ∀ l H', H l = none → Ext H H' → H' l = some (.lst [.str (PySem.Str.ofString "net"), atV o]) → Q (.ref l) H') : tWordN K a dd o { nx := fun _ H' => Q .non H', rt := Q } (L2.start ["_law_e", "_law_mine"] [.ref a]) H := by
  refine ⟨rfl, hd, rfl, hd, rfl, hd, rfl, hd, (by decide : 4 ≤ sizeLine), fun l hl => ?_⟩
  have x1 : Ext H (upd H l (.lst [.bl false, .bl false, .bl false, .bl true])) := Ext.new hl
  have x2 : Ext H (upd (upd H l (.lst [.bl false, .bl false, .bl false, .bl true])) l (.lst [.bl false, .bl false, .bl false, .bl true, .bl false])) := fun b u hb => by
    have nb : b ≠ l := ne_of_none hb hl
    rw [upd_ne nb, upd_ne nb]
    exact hb
  refine ⟨.ref l, rfl, .inl ⟨rfl, _, SqL.of upd_same⟩, rfl, hd.ext x1, l, _, _, rfl, rfl, upd_same, (by decide : 4 < sizeLine), ?_⟩
  have d2 := hd.ext x2
  refine ⟨.ref l, rfl, .inl ⟨rfl, _, SqL.of upd_same⟩, l, _, .bl true, rfl, rfl, SqL.of upd_same, rfl, rfl, rfl, false, rfl, ?_⟩
  refine (if_neg Bool.false_ne_true).mpr ⟨rfl, d2, true, rfl, ?_⟩
  refine (if_neg Bool.false_ne_true).mpr ?_
  refine ⟨rfl, d2, true, rfl, ?_⟩
  refine (if_pos rfl).mpr ⟨rfl, d2, false, rfl, ?_⟩
  refine (if_pos rfl).mpr ⟨rfl, d2, (by decide : 2 ≤ sizeLine), fun l3 hl3 => hq l3 _ ?_ ?_ upd_same⟩
  · have n3 : l3 ≠ l := fun e => by
      rw [e, upd_same] at hl3
      cases hl3
    rw [upd_ne n3, upd_ne n3] at hl3
    exact hl3
  · intro b u hb
    have n3 : b ≠ l3 := fun e => by
      have := x2 b u hb
      rw [e] at this
      have z := this.symm.trans (show _ = none from hl3)
      cases z
    rw [upd_ne n3]
    exact x2 b u hb
end G
namespace G
open L2 PySem PySem.Spec PyProof.Rows
def atD : Option Int → D
  | none => .non
  | some i => .int i
theorem atD_dv {K : PySem.W.Frag} {F : Hp} {as : List Addr} (o : Option Int) : Dv K F as (atV o) (atD o) := by
  cases o with
  | none => exact .non
  | some i => exact .int i
def wordD5 : Exn → Option D
  | .net o => some (.lst [.str (PySem.Str.ofString "net"), atD o])
  | x => wordD x
theorem wordD54 (y : X4) : wordD5 y.e = some (.lst [.str y.word]) := by cases y <;> rfl
def spW5 (K : PySem.W.Frag) (ct : Ct) : SpE := fun p vs H Q => spW K ct p vs H Q ∨ ∃ dd o, vs = [.ref p.1] ∧ Zc (.ref ct.net) (some dd) p.2 ∧ (∃ fs, p.2.data = .fields fs) ∧ Dd H dd o ∧ ∀ l H', H l = none → Ext H H' → H' l = some (.lst [.str (PySem.Str.ofString "net"), atV o]) → Q (.ref l) H'
def DpE5 (P : Program) (w : World) (K : PySem.W.Frag) (mg : Str → Option Value) (base : Heap) (ct : Ct) (k : Nat) : Prop := ∃ fa fd, mg "_law_word" = some (.ref fa) ∧ PySem.W.keepIn K (.ref fa) = true ∧ L2.Binds K fd ["_law_e"] [] ∧ FnE P w K mg base k fa fd ["_law_e"] (spW5 K ct)
theorem new_ext {K : PySem.W.Frag} {F H H' : Hp} {as : List Addr} {cs : Cs} {l : Addr} {ys : List V} (ok : Ok K F H as cs) (hn : H l = none) (he : Ext H H') (hH : H' l = some (.lst ys)) : Gro F H as (upd F l (.lst ys)) H' as ∧ Ok K (upd F l (.lst ys)) H' as cs := by
  refine ⟨⟨Ext.new (ok.fnone hn), fun q hq => upd_ne fun e => hq (by rw [e]; exact hn), fun q o hq _ => he q o hq, fun q hq => ?_, List.prefix_rfl, fun _ m => .inl m⟩, ⟨fun b o e => ?_, ok.nd, ok.len, fun j a xs ha hxs => ?_⟩⟩
  · cases q2 : H q with
    | none => exact absurd q2 hq
    | some o =>
      rw [he q o q2]
      exact fun z => nomatch z
  · by_cases q : b = l
    · rw [q, upd_same] at e
      cases e
      rw [q]
      exact hH
    · rw [upd_ne q] at e
      exact he b o (ok.fh b o e)
  · obtain ⟨w1, ys2, w2, w3⟩ := ok.cell j a xs ha hxs
    exact ⟨by rw [upd_ne fun e => ok.out hn (by rw [← e]; exact List.mem_of_getElem? ha)]; exact w1, ys2, he a _ w2, w3.mono (Ext.new (ok.fnone hn)) List.prefix_rfl⟩
/-- try: body, except NetError as e: return _law_word(e), any of the five -/
def sTryW5 (i : Nat) (body : En → M Fl) : En → M Fl := fun env cs => if i < env.length then (match body env cs with
  | .ok f cs' => .ok f cs'
  | .ex x cs' => (match wordD5 x with
    | some d => .ok (.rt d) cs'
    | none => .no)
  | .no => .no) else .no
def tsW5 (ct : Ct) (i : Nat) (a : Addr) (cls : Value) (d : Option Addr) : TS := fun E σ H => σ[i]? = some (some (.ref a)) ∧ ((∃ y : X4, cls = .ref (ct.at4 y) ∧ d = none ∧ ∀ l H', H l = none → Ext H H' → H' l = some (.lst [.str y.word]) → E.rt (.ref l) H') ∨
  ∃ dd o, cls = .ref ct.net ∧ d = some dd ∧ Dd H dd o ∧ ∀ l H', H l = none → Ext H H' → H' l = some (.lst [.str (PySem.Str.ofString "net"), atV o]) → E.rt (.ref l) H')
theorem gs_tryW5 {X : Cx} {ct : Ct} {W : WX} {ne : Addr} {i k j : Nat} {n : Str} {mb : En → M Fl} {body : List Stmt} {np pos pos' p1 p2 p3 p4 : Pos} (T : Xt X.K X.mg ct ne) (N : XtN X.K ct ne) (hs : X.stack = X.env :: X.outer) (hf : X.env.frame = some X.env.locals) (hN : X.N.Nodup) (hi : X.N[i]? = some n) (hln : X.env.kindOf n = some .local) (hg : Gl X "NetError") (tk : Takes X W)
    (hr : Room k X.A) (hj : j ≤ k) (Wd : DpE5 X.prog X.w X.K X.mg X.base ct j) (hgw : Gl X "_law_word") (hv : ∀ (a : Addr) (pn : List (Addr × Obj)), PE (X.suite a pn) (.Name n p3) (tVar i)) (hst : starEach [.Name n p3] X.env = (false, eval (.Name n p3) X.env) :: starEach [] X.env)
    (hb : ∀ (W : WX) (pn : List (Addr × Obj)) (xe : Value → Shared → Prop), Takes (X.tr pn xe) W → PassesOwn (model X.prog X.w) X.A X.env xe → PSs (X.tr pn xe) body (tS X.K ct W mb)) :
    PS X (.Try body [.ExceptHandler (some (.Name "NetError" np)) (some n) [.Return (some (.Call (.Name "_law_word" p1) [.Name n p3] [] p4)) p2] pos'] [] [] pos) (tS X.K ct W (sTryW5 i mb)) := by
  obtain ⟨fa, fd, hm, hk, hbd, Fn⟩ := Wd
  refine PS.imp (ps_try_as (i := i) (c := .ref ne) (Wout := W) (ts := tsW5 ct i) hs hf hN hi hln ⟨hg, by decide, .inl T.mgE⟩ tk hb fun a oe cls d pn hz hfl => ?_) ?_
  · refine PSs.imp (pss_one (ps_ret (pe_callE (p := (a, oe)) (ps := ["_law_e"]) (X := X.suite a ((a, oe) :: pn)) Fn List.mem_cons_self ⟨(hr.mono hj).dp, (hr.mono hj).un⟩ hgw hm hk hbd (pa_cons (hv a _) pa_nil hst) (by decide) hst rfl))) ?_
    rintro E σ H ⟨h1, ⟨y, rfl, rfl, h2⟩ | ⟨dd, o, rfl, rfl, h3, h2⟩⟩
    · exact ⟨_, h1, rfl, .inl ⟨y, rfl, hz, hfl, h2⟩⟩
    · exact ⟨_, h1, rfl, .inr ⟨dd, o, rfl, hz, hfl, h3, h2⟩⟩
  · rintro E σ H ⟨F, as, env, cs, ok, sl, h⟩
    refine ⟨F, as, env, cs, ok, sl, ?_⟩
    unfold sTryW5 at h
    split at h
    · rename_i hi0
      cases q : mb env cs with
      | no =>
        rw [q] at h
        exact h
      | ok f cs2 =>
        rw [q] at h
        exact h
      | ex x cs2 =>
        rw [q] at h
        intro c d σ' F1 H1 as1 hl g1 ok1 hx
        have at_ : ∀ a : Addr, (σ'.set i (some (V.ref a)))[i]? = some (some (.ref a)) := fun a => List.getElem?_set_self (by rw [hl, sl.len]; exact hi0)
        have main : ∀ y : X4, x = y.e → wAs X.K (.ref ne) i (tsW5 ct i) W E c d σ' H1 := fun y hy => by
          subst hy
          have ec : c = .ref (ct.at4 y) ∧ d = none := by cases y <;> exact hx
          obtain ⟨rfl, rfl⟩ := ec
          have h3 : out X.K ct W σ.length F H as (match wordD5 y.e with
            | some d => Rs.ok (Fl.rt d) cs2
            | none => .no) (oS X.K σ.length E) := h
          rw [wordD54] at h3
          refine ⟨true, T.em y, fun _ a _ => ⟨at_ a, .inl ⟨y, rfl, rfl, fun l H' hn he hH => ?_⟩⟩, fun z => nomatch z⟩
          obtain ⟨g2, ok2⟩ := new_ext ok1 hn he hH
          exact h3 _ H' as1 (g1.trans g2) ok2 _ (.lst upd_same (.cons (.str _) .nil))
        cases x with
        | lines => exact main .lines rfl
        | thing => exact main .thing rfl
        | kind => exact main .kind rfl
        | nonet => exact main .nonet rfl
        | net o =>
          obtain ⟨rfl, dd, fs, rfl, hfs, hlk⟩ := hx
          have h3 : out X.K ct W σ.length F H as (Rs.ok (Fl.rt (.lst [.str (PySem.Str.ofString "net"), atD o])) cs2) (oS X.K σ.length E) := h
          refine ⟨true, N.em, fun _ a _ => ⟨at_ a, .inr ⟨dd, o, rfl, rfl, ⟨fs, hfs, hlk⟩, fun l H' hn he hH => ?_⟩⟩, fun z => nomatch z⟩
          obtain ⟨g2, ok2⟩ := new_ext ok1 hn he hH
          exact h3 _ H' as1 (g1.trans g2) ok2 _ (.lst upd_same (.cons (.str _) (.cons (atD_dv o) .nil)))
    · exact False.elim h
end G
/-! G14: BadNet's facts as truths that the head can reckon. -/
namespace G
open L2 PySem PySem.Spec PyProof.Rows
def oexB (K : PySem.W.Frag) (C : Addr) : Bool := (match K.lookup C with
  | some ⟨.type "type", _, .cls cd, sl⟩ => (match cd.mro, sl.toList with
    | .ref C' :: bm, [_, _, _, _, some (.builtin n), _] => decide (C' = C) && (decide (n = "ValueError.__new__") && (!cd.hasDel && (cd.hasDict && PySem.HandSPX.refsVE bm)))
    | _, _ => false)
  | _ => false) && (decide (PySem.W.findIn K (.ref C) "__setattr__" = some (some (.builtin "object.__setattr__"))) && (decide (PySem.W.subIn K (.ref C) (.type "BaseException") = some true) && (decide (PySem.W.typeIn K (.ref C) = some (.type "type")) && PySem.W.keepIn K (.ref C))))
theorem oexB_ok {K : PySem.W.Frag} {C : Addr} (h : oexB K C = true) : OexC K C := by
  obtain ⟨h0, h⟩ := He.ba h
  obtain ⟨h1, h⟩ := He.ba h
  obtain ⟨h2, h⟩ := He.ba h
  obtain ⟨h3, h4⟩ := He.ba h
  refine ⟨?_, of_decide_eq_true h1, of_decide_eq_true h2, of_decide_eq_true h3, h4⟩
  split at h0
  · rename_i dd cd sl ho
    split at h0
    · rename_i C' bm k0 k1 k2 k3 n k5 hm hs
      obtain ⟨q1, q⟩ := He.ba h0
      obtain ⟨q2, q⟩ := He.ba q
      obtain ⟨q3, q⟩ := He.ba q
      obtain ⟨q4, q5⟩ := He.ba q
      have e1 := of_decide_eq_true q1
      have e2 := of_decide_eq_true q2
      subst e1 e2
      obtain ⟨nm, bs, mro, ns, qn, hd, sn, sub, ab, col, del⟩ := cd
      dsimp only at hm q3 q4
      subst hm
      have e3 : del = false := by simpa using q3
      subst e3 q4
      have hsl : sl = #[k0, k1, k2, k3, some (.builtin "ValueError.__new__"), k5] := by
        obtain ⟨l⟩ := sl
        simp only at hs
        rw [hs]
      subst hsl
      exact ⟨nm, qn, ns, bs, bm, sn, sub, ab, col, dd, k0, k1, k2, k3, k5, ho, q5⟩
    · cases h0
  · cases h0
def neB (K : PySem.W.Frag) (ne : Addr) : Bool := decide (PySem.W.specialIn K (.ref ne) "__getattribute__" = some (some (.builtin "type.__getattribute__"))) && (PySem.W.readsIn K ne (.type "type") && (match PySem.W.findCls K (.ref ne) (.type "type") "__init__" with
  | some (.val v) => decide (v = .builtin "ValueError.__init__")
  | _ => false))
theorem neB_ok {K : PySem.W.Frag} {ne : Addr} (h : neB K ne = true) : NeC K ne := by
  obtain ⟨h1, h⟩ := He.ba h
  obtain ⟨h2, h3⟩ := He.ba h
  refine ⟨of_decide_eq_true h1, h2, ?_⟩
  split at h3
  · rename_i v e
    rw [e, of_decide_eq_true h3]
  · cases h3
def xtnB (K : PySem.W.Frag) : Bool := exCB K (ctOf K).net && ((x4s.all fun z => decide (PySem.W.kitOne K (.ref (ctOf K).net) (.ref ((ctOf K).at4 z)) = some false)) && (decide (PySem.W.kitOne K (.ref (ctOf K).net) (.ref (ctOf K).net) = some true) &&
  (decide (PySem.W.kitOne K (.ref (ctOf K).net) (.type "ValueError") = some true) && (decide (PySem.W.exmOne K (.ref (ctOf K).net) (.ref (He.ga K "NetError")) = some true) && decide (PySem.W.findIn K (.ref (ctOf K).net) "at" = some none)))))
theorem xtnB_ok {K : PySem.W.Frag} (h : xtnB K = true) : XtN K (ctOf K) (He.ga K "NetError") := by
  obtain ⟨h1, h⟩ := He.ba h
  obtain ⟨h2, h⟩ := He.ba h
  obtain ⟨h3, h⟩ := He.ba h
  obtain ⟨h4, h⟩ := He.ba h
  obtain ⟨h5, h6⟩ := He.ba h
  exact ⟨exCB_ok h1, fun z => of_decide_eq_true (x4s_all h2 z), of_decide_eq_true h3, of_decide_eq_true h4, of_decide_eq_true h5, of_decide_eq_true h6⟩
/-- BadNet's __init__ keeps its promise -/
theorem init_ok {P : Program} {w : World} {K : PySem.W.Frag} {mg : Str → Option Value} {base : Heap} {ct : Ct} {x : Str} {params : Arguments} {body : List Stmt} {scope : Scope} {fI : Addr} {fd : FuncData} (F : FunD K "__init__" x params body scope [] [] fI fd) (S : FnScope ["self", "at"] ["self", "at"] scope)
    (hb : ∀ (cdv : Value) (A : Around) (outer : List Env) (s : Shared) (H : Hp) (E : XK), PSs (cxOf (L2.CX P w) P w K mg base ["self", "at"] x scope fI cdv A outer s H E) body (tInit K)) : FnP P w K mg base 1 fI fd ["self", "at"] (spInit K ct.net) := by
  refine F.ok (k := 0) S (fun vs H Q E h => ?_) fun cdv A outer s H vs Q E hr h => ⟨_, hb cdv A outer s H E, init_wish h⟩
  obtain ⟨a, v, rfl, _⟩ := h
  rfl
end G
namespace G
open L2 PySem PySem.Spec PyProof.Rows
/-- the Hook, the statics' table among what it sees (readsIn asks for it) -/
def obsYG (n : Nat) (fa : List He.Fa) (fn : List He.DefD) (ex : PySem.W.Frag → Bool) (g : Addr → Option Obj) : AlX := obsX fa fn ex (He.frG g (cStatics :: He.asD g n))
def hookY (n : Nat) (fa : List He.Fa) (fn : List He.DefD) (ex : PySem.W.Frag → Bool) : PySem.W.Hook where
  α := AlX
  obs := fun s => obsYG n fa fn ex s.heap.get?
  val := fun _ => (He.valD fn, true)
  says := fun _ h => ∃ K : PySem.W.Frag, K.In h ∧ He.SaysD fa fn K ∧ ex K = true
  of := fun _ _ e => ⟨_, He.frG_in, congrArg (fun z : AlX => z.1) e, congrArg (fun z : AlX => z.2) e⟩
  keeps := fun _ _ _ ⟨K, hK, c⟩ k => ⟨K, PySem.W.Frag.In.keeps hK k, c⟩
theorem obsYG_eq {n : Nat} {fa : List He.Fa} {fn : List He.DefD} {ex : PySem.W.Frag → Bool} {g : Addr → Option Obj} {s : Shared} (h : ∀ a, g a = s.heap.get? a) : obsYG n fa fn ex g = (hookY n fa fn ex).obs s := by
  have e : g = s.heap.get? := funext h
  rw [e] <;> rfl
end G
/-! G15: statements nobody reaches; {} == {}; an evaluator by rewriting. -/
namespace G
open L2 PySem PySem.Spec PyProof.Rows
def sNever : En → M Fl := fun _ => M.no
theorem gs_never {X : Cx} {ct : Ct} {W : WX} {st : Stmt} : PS X st (tS X.K ct W sNever) := PS.imp G.ps_never (by
  rintro D σ H ⟨F, as, env, cs, ok, sl, h⟩
  exact h)
def opEqX (b : Bool) : D → D → M D
  | .dic, .dic => M.ret (.bl b)
  | d, e => opEq b d e
def rDic (b : Bool) : R2 := fun x y H Q => ∃ a b' kvs, x = .ref a ∧ y = .ref b' ∧ H a = some (.dK kvs) ∧ H b' = some (.dK kvs) ∧ (kvs.map (·.1)).Nodup ∧ (∀ p ∈ kvs, flatB p.2 = true) ∧ Q (.bl true) H
def rEqX (K : PySem.W.Frag) : R2 := fun x y H Q => rDic true x y H Q ∨ rEqD K x y H Q
theorem op_eqX {X : Cx} (hu : X.A.units + 64 < cLine) : OpR X (compareOp .Eq) (rEqX X.K) := OpR.or (op_eq_dict (Nat.lt_of_le_of_lt (Nat.le_add_right _ _) hu)) (op_eqD hu)
theorem od_eqX {K : PySem.W.Frag} {ct : Ct} : OpD K ct (rEqX K) (opEqX true) := fun W n F H as cs x y d e Q ok hx hy h => by
  unfold opEqX at h
  split at h
  · cases hx with
    | dic h1 =>
      cases hy with
      | dic h2 => exact .inl ⟨_, _, [], rfl, rfl, ok.fh _ _ h1, ok.fh _ _ h2, List.nodup_nil, (fun p hp => by cases hp), end_ok ok (.bl _) h⟩
  · exact .inr (od_eq W n F H as cs x y _ _ Q ok hx hy h)
/-! ### the evaluator -/
set_option checkBinderAnnotations false in
def kk {α β : Type} (r : Rs α) [k : α → Cs → Rs β] : Rs β := match r with
  | .ok a cs => k a cs
  | .ex e cs => .ex e cs
  | .no => .no
theorem kk_c {α β : Type} {r : Rs α} {k k' : α → Cs → Rs β} (h : ∀ a cs, k a cs = k' a cs) : @kk _ _ r k = @kk _ _ r k' := by
  have e : k = k' := funext fun a => funext fun cs => h a cs
  rw [e]
theorem kk_ok {α β : Type} (a : α) (cs : Cs) (k : α → Cs → Rs β) : @kk _ _ (.ok a cs) k = k a cs := rfl
theorem kk_ex {α β : Type} (a : Exn) (cs : Cs) (k : α → Cs → Rs β) : @kk _ _ (.ex a cs) k = .ex a cs := rfl
set_option checkBinderAnnotations false in
def kF (r : Rs Fl) [b : En → M Fl] : Rs Fl := match r with
  | .ok (.nx e) cs => b e cs
  | r => r
theorem kF_nx (e : En) (cs : Cs) (b : En → M Fl) : @kF (.ok (.nx e) cs) b = b e cs := rfl
theorem kF_rt (d : D) (cs : Cs) (b : En → M Fl) : @kF (.ok (.rt d) cs) b = .ok (.rt d) cs := rfl
theorem kF_ex (x : Exn) (cs : Cs) (b : En → M Fl) : @kF (.ex x cs) b = .ex x cs := rfl
set_option checkBinderAnnotations false in
def kI {α : Type} (k : Bool) [a : Rs α] [b : Rs α] : Rs α := if k = true then a else b
theorem kI_t {α : Type} (a b : Rs α) : @kI _ true a b = a := rfl
theorem kI_f {α : Type} (a b : Rs α) : @kI _ false a b = b := rfl
theorem bnd_kk {α β : Type} (m : M α) (k : α → M β) (cs : Cs) : M.bnd m k cs = @kk _ _ (m cs) k := by
  unfold M.bnd kk
  rfl
theorem e_seq (a b : En → M Fl) (env : En) (cs : Cs) : sSeq a b env cs = @kF (a env cs) b := by
  show M.bnd (a env) _ cs = _
  rw [bnd_kk]
  unfold kk kF
  cases a env cs with
  | ok f cs => cases f <;> rfl
  | ex _ _ => rfl
  | no => rfl
theorem e_skip (env : En) (cs : Cs) : sSkip env cs = (Rs.ok (Fl.nx env) cs : Rs Fl) := rfl
set_option checkBinderAnnotations false in
def kT [t : Tg] [env : En] (r : Rs D) : Rs Fl := match r with
  | .ok d cs => (match tgS t d env with
    | some e => .ok (.nx e) cs
    | none => .no)
  | .ex e cs => .ex e cs
  | .no => .no
theorem kT_nm (i : Nat) (env : En) (d : D) (cs : Cs) : @kT (.nm i) env (.ok d cs) = .ok (.nx (env.set i (some d))) cs := rfl
theorem kT_tp2 (i j : Nat) (env : En) (d e : D) (cs : Cs) : @kT (.tp [i, j]) env (.ok (.tup [d, e]) cs) = .ok (.nx ((env.set i (some d)).set j (some e))) cs := rfl
theorem kT_ex (t : Tg) (env : En) (x : Exn) (cs : Cs) : @kT t env (.ex x cs) = .ex x cs := rfl
theorem e_asg (m : En → M D) (t : Tg) (env : En) (cs : Cs) : sAsg m t env cs = @kT t env (m env cs) := by
  show M.bnd (m env) _ cs = _
  rw [bnd_kk]
  unfold kk kT
  cases m env cs with
  | ok d cs =>
    dsimp only
    cases tgS t d env <;> rfl
  | ex _ _ => rfl
  | no => rfl
theorem e_drop (m : En → M D) (env : En) (cs : Cs) : sDrop m env cs = @kk _ _ (m env cs) fun _ cs => .ok (.nx env) cs := bnd_kk ..
theorem e_ret (m : En → M D) (env : En) (cs : Cs) : sRet m env cs = @kk _ _ (m env cs) fun d cs => .ok (.rt d) cs := bnd_kk ..
theorem e_raise (x : Exn) (env : En) (cs : Cs) : sRaise x env cs = .ex x cs := rfl
def nX : D → M Fl
  | .non => M.thr (.net none)
  | .int i => M.thr (.net (some i))
  | _ => M.no
theorem nX_n (cs : Cs) : nX .non cs = .ex (.net none) cs := rfl
theorem nX_i (i : Int) (cs : Cs) : nX (.int i) cs = .ex (.net (some i)) cs := rfl
theorem e_raiseN (m : En → M D) (env : En) (cs : Cs) : sRaiseNet m env cs = @kk _ _ (m env cs) nX := by
  show M.bnd (m env) _ cs = _
  exact bnd_kk ..
theorem thr_e {α : Type} (x : Exn) (cs : Cs) : (M.thr x : M α) cs = .ex x cs := rfl
theorem ret_e {α : Type} (x : α) (cs : Cs) : (M.ret x : M α) cs = .ok x cs := rfl
theorem e_if (t : En → M Bool) (a b : En → M Fl) (env : En) (cs : Cs) : sIf t a b env cs = @kk _ _ (t env cs) fun k cs => @kI _ k (a env cs) (b env cs) := by
  show M.bnd (t env) _ cs = _
  rw [bnd_kk]
  unfold kk
  cases t env cs with
  | ok k cs => cases k <;> rfl
  | ex _ _ => rfl
  | no => rfl
def vB : D → M Bool
  | .bl k => M.ret k
  | _ => M.no
theorem vB_bl (k : Bool) (cs : Cs) : vB (.bl k) cs = .ok k cs := rfl
theorem e_val (m : En → M D) (env : En) (cs : Cs) : bVal m env cs = @kk _ _ (m env cs) vB := by
  show M.bnd (m env) _ cs = _
  exact bnd_kk ..
theorem e_not (t : En → M Bool) (env : En) (cs : Cs) : bNot t env cs = @kk _ _ (t env cs) fun k cs => .ok (!k) cs := bnd_kk ..
theorem e_or (a b : En → M Bool) (env : En) (cs : Cs) : bOr a b env cs = @kk _ _ (a env cs) fun k cs => @kI _ k (.ok true cs) (b env cs) := by
  show M.bnd (a env) _ cs = _
  rw [bnd_kk]
  unfold kk
  cases a env cs with
  | ok k cs => cases k <;> rfl
  | ex _ _ => rfl
  | no => rfl
theorem e_and (a b : En → M Bool) (env : En) (cs : Cs) : bAnd a b env cs = @kk _ _ (a env cs) fun k cs => @kI _ k (b env cs) (.ok false cs) := by
  show M.bnd (a env) _ cs = _
  rw [bnd_kk]
  unfold kk
  cases a env cs with
  | ok k cs => cases k <;> rfl
  | ex _ _ => rfl
  | no => rfl
set_option checkBinderAnnotations false in
def kB {α : Type} (d : D) [k : Bool → Rs α] : Rs α := match d with
  | .bl b => k b
  | _ => .no
theorem kB_bl {α : Type} (b : Bool) (k : Bool → Rs α) : @kB _ (.bl b) k = k b := rfl
theorem e_xand (a b : En → M D) (env : En) (cs : Cs) : xAnd a b env cs = @kk _ _ (a env cs) fun d cs => @kB _ d fun k => @kI _ k (b env cs) (.ok (.bl false) cs) := by
  show M.bnd (a env) _ cs = _
  rw [bnd_kk]
  unfold kk
  cases a env cs with
  | ok d cs =>
    cases d with
    | bl k => cases k <;> rfl
    | _ => rfl
  | ex _ _ => rfl
  | no => rfl
theorem e_xor (a b : En → M D) (env : En) (cs : Cs) : xOr a b env cs = @kk _ _ (a env cs) fun d cs => @kB _ d fun k => @kI _ k (.ok (.bl true) cs) (b env cs) := by
  show M.bnd (a env) _ cs = _
  rw [bnd_kk]
  unfold kk
  cases a env cs with
  | ok d cs =>
    cases d with
    | bl k => cases k <;> rfl
    | _ => rfl
  | ex _ _ => rfl
  | no => rfl
theorem e_xnot (a : En → M D) (env : En) (cs : Cs) : xNot a env cs = @kk _ _ (a env cs) fun d cs => @kB _ d fun k => .ok (.bl !k) cs := by
  show M.bnd (a env) _ cs = _
  rw [bnd_kk]
  unfold kk
  cases a env cs with
  | ok d cs => cases d <;> rfl
  | ex _ _ => rfl
  | no => rfl
def kV (o : Option (Option D)) (cs : Cs) : Rs D := match o with
  | some (some d) => .ok d cs
  | _ => .no
theorem kV_some (d : D) (cs : Cs) : kV (some (some d)) cs = .ok d cs := rfl
theorem e_var (i : Nat) (env : En) (cs : Cs) : xVar i env cs = kV env[i]? cs := by
  unfold xVar kV
  cases env[i]? with
  | none => rfl
  | some o => cases o <;> rfl
theorem e_c (d : D) (env : En) (cs : Cs) : xC d env cs = .ok d cs := rfl
theorem e_bin (f : D → D → M D) (a b : En → M D) (env : En) (cs : Cs) : xBin f a b env cs = @kk _ _ (a env cs) fun x cs => @kk _ _ (b env cs) fun y cs => f x y cs := rfl
theorem e_un (f : D → M D) (a : En → M D) (env : En) (cs : Cs) : xUn f a env cs = @kk _ _ (a env cs) f := rfl
theorem e_chain (f g : D → D → M D) (a b c : En → M D) (env : En) (cs : Cs) : xChain f g a b c env cs = @kk _ _ (a env cs) fun x cs => @kk _ _ (b env cs) fun y cs => @kk _ _ (f x y cs) fun z cs => @kB _ z fun k => @kI _ k (@kk _ _ (c env cs) fun w cs => g y w cs) (.ok (.bl false) cs) := by
  show M.bnd (a env) _ cs = _
  rw [bnd_kk]
  refine kk_c fun x cs => ?_
  rw [bnd_kk]
  refine kk_c fun y cs => ?_
  rw [bnd_kk]
  refine kk_c fun z cs => ?_
  cases z with
  | bl k => cases k <;> rfl
  | _ => rfl
theorem e_nil (env : En) (cs : Cs) : aNil env cs = .ok [] cs := rfl
theorem e_cons (a : En → M D) (r : En → M (List D)) (env : En) (cs : Cs) : aCons a r env cs = @kk _ _ (a env cs) fun d cs => @kk _ _ (r env cs) fun ds cs => .ok (d :: ds) cs := rfl
theorem kI_fun {α : Type} (k : Bool) (a b : M α) (cs : Cs) : (if k = true then a else b) cs = @kI _ k (a cs) (b cs) := by cases k <;> rfl
theorem e_tup (a : En → M (List D)) (env : En) (cs : Cs) : xTup a env cs = @kk _ _ (a env cs) fun ds cs => @kI _ (szOk ds.length) (.ok (.tup ds) cs) .no := by
  show M.bnd (a env) _ cs = _
  rw [bnd_kk]
  refine kk_c fun ds cs => ?_
  rw [kI_fun]
  rfl
theorem e_lst (c : Bool) (a : En → M (List D)) (env : En) (cs : Cs) : xLst c a env cs = @kk _ _ (a env cs) fun ds cs => @kI _ (szOk ds.length) (mkL c ds cs) .no := by
  show M.bnd (a env) _ cs = _
  rw [bnd_kk]
  refine kk_c fun ds cs => ?_
  rw [kI_fun]
  rfl
theorem e_call (g : List D → M D) (a : En → M (List D)) (env : En) (cs : Cs) : xCall g a env cs = @kk _ _ (a env cs) g := rfl
theorem e_callM (g : List D → M D) (a : En → M (List D)) (env : En) (cs : Cs) : xCallM g a env cs = @kk _ _ (a env cs) g := rfl
theorem e_callP (f : List D → Rp) (a : En → M (List D)) (env : En) (cs : Cs) : xCallP f a env cs = @kk _ _ (a env cs) fun ds cs => @kI _ (noRL ds) (up (f ds) cs) .no := by
  show M.bnd (a env) _ cs = _
  rw [bnd_kk]
  refine kk_c fun ds cs => ?_
  rw [kI_fun]
  rfl
def upO (r : Rp) (cs : Cs) : Rs D := match r with
  | .ok (.lst xs) => mkL true xs cs
  | r => up r cs
theorem e_callO (f : List D → Rp) (a : En → M (List D)) (env : En) (cs : Cs) : xCallO f a env cs = @kk _ _ (a env cs) fun ds cs => @kI _ (noRL ds) (upO (f ds) cs) .no := by
  show M.bnd (a env) _ cs = _
  rw [bnd_kk]
  refine kk_c fun ds cs => ?_
  rw [kI_fun]
  congr 1
  unfold upO
  cases f ds with
  | ok d => cases d <;> rfl
  | ex x => rfl
  | no => rfl
theorem up_ok (d : D) (cs : Cs) : up (.ok d) cs = .ok d cs := rfl
theorem up_ex (x : Exn) (cs : Cs) : up (.ex x) cs = .ex x cs := rfl
theorem upO_ok (d : List D) (cs : Cs) : upO (.ok (.lst d)) cs = .ok (.ref cs.length) (cs ++ [d]) := rfl
theorem upO_ex (x : Exn) (cs : Cs) : upO (.ex x) cs = .ex x cs := rfl
theorem mkL_t (d : List D) (cs : Cs) : mkL true d cs = .ok (.ref cs.length) (cs ++ [d]) := rfl
theorem mkL_n (d : List D) (cs : Cs) : mkL false d cs = .ok (.lst d) cs := rfl
/-! operators -/
theorem o_sub (i j : Int) (cs : Cs) : opSub (.int i) (.int j) cs = .ok (.int (i - j)) cs := rfl
theorem o_lt (i j : Int) (cs : Cs) : opLt (.int i) (.int j) cs = .ok (.bl (decide (i < j))) cs := rfl
theorem o_le (i j : Int) (cs : Cs) : opLe (.int i) (.int j) cs = .ok (.bl (decide (i ≤ j))) cs := rfl
theorem o_gt (i j : Int) (cs : Cs) : opGt (.int i) (.int j) cs = .ok (.bl (decide (j < i))) cs := rfl
theorem o_ge (i j : Int) (cs : Cs) : opGe (.int i) (.int j) cs = .ok (.bl (decide (j ≤ i))) cs := rfl
theorem o_div {i j : Int} (h : 0 < j) (h2 : j < 1073741824) (cs : Cs) : opDiv (.int i) (.int j) cs = .ok (.int (i / j)) cs := by
  unfold opDiv iOp
  simp [h, h2, M.ret]
theorem o_mod {i j : Int} (h : 0 < j) (cs : Cs) : opMod (.int i) (.int j) cs = .ok (.int (i % j)) cs := by
  unfold opMod iOp
  simp [h, M.ret]
theorem o_add (c : Bool) (i j : Int) (cs : Cs) : opAdd c (.int i) (.int j) cs = .ok (.int (i + j)) cs := rfl
theorem o_addS (c : Bool) (i j : Str) (cs : Cs) : opAdd c (.str i) (.str j) cs = @kI _ (szOk (i.length + j.length)) (.ok (.str (i ++ j)) cs) .no := by
  show (if _ then _ else _ : M D) cs = _
  rw [kI_fun]
  rfl
theorem o_addT (c : Bool) (i j : List D) (cs : Cs) : opAdd c (.tup i) (.tup j) cs = @kI _ (szOk (i.length + j.length)) (.ok (.tup (i ++ j)) cs) .no := by
  show (if _ then _ else _ : M D) cs = _
  rw [kI_fun]
  rfl
theorem o_addL (c : Bool) (i j : List D) (cs : Cs) : opAdd c (.lst i) (.lst j) cs = @kI _ (szOk (i.length + j.length)) (mkL c (i ++ j) cs) .no := rfl
theorem o_neg (i : Int) (cs : Cs) : opNeg (.int i) cs = .ok (.int (-i)) cs := rfl
theorem o_mulk {c : Bool} {i j : Int} (h : -(2 ^ 64) < j) (h2 : j < 2 ^ 64) (cs : Cs) : opMul c (.int i) (.int j) cs = .ok (.int (i * j)) cs := by
  show (if _ then _ else _ : M D) cs = _
  rw [if_pos (decide_eq_true (.inr ⟨h, h2⟩))]
  rfl
theorem o_mulX {c : Bool} {i j : Int} (h : -(2 ^ 64) < j) (h2 : j < 2 ^ 64) (cs : Cs) : opMulX c (.int i) (.int j) cs = .ok (.int (i * j)) cs := o_mulk (c := c) h h2 cs
theorem o_mulL {c : Bool} {xs : List D} {j : Int} (h : 0 ≤ j) (h2 : j ≤ 1000000) (h3 : xs.length * j.toNat ≤ 1000000) (cs : Cs) : opMul c (.lst xs) (.int j) cs = mkL c (List.replicate j.toNat xs).flatten cs := by
  show (if _ then _ else _ : Rs D) = _
  rw [if_pos (by simp only [Bool.and_eq_true, decide_eq_true_eq, szOk]; omega)]
theorem o_mulXL {c : Bool} {xs : List D} {j : Int} (h : 0 ≤ j) (h2 : j ≤ 1000000) (h3 : xs.length * j.toNat ≤ 1000000) (cs : Cs) : opMulX c (.lst xs) (.int j) cs = mkL c (List.replicate j.toNat xs).flatten cs := o_mulL h h2 h3 cs
theorem o_isN (b : Bool) (cs : Cs) : opIsN b .non .non cs = .ok (.bl b) cs := rfl
theorem o_isNI (b : Bool) (i : Int) (cs : Cs) : opIsN b (.int i) .non cs = .ok (.bl !b) cs := rfl
theorem o_isNT (b : Bool) (i : List D) (cs : Cs) : opIsN b (.tup i) .non cs = .ok (.bl !b) cs := rfl
theorem o_isNL (b : Bool) (i : List D) (cs : Cs) : opIsN b (.lst i) .non cs = .ok (.bl !b) cs := rfl
theorem o_isNR (b : Bool) (i : Nat) (cs : Cs) : opIsN b (.ref i) .non cs = .ok (.bl !b) cs := rfl
theorem o_isNB (b : Bool) (i : Bool) (cs : Cs) : opIsN b (.bl i) .non cs = .ok (.bl !b) cs := rfl
theorem o_isNS (b : Bool) (i : Str) (cs : Cs) : opIsN b (.str i) .non cs = .ok (.bl !b) cs := rfl
theorem o_is (T : Ty) (d : D) (cs : Cs) : opIs T d cs = .ok (.bl (isD T d)) cs := rfl
def kO {α : Type} (o : Option α) (cs : Cs) : Rs α := match o with
  | some a => .ok a cs
  | none => .no
theorem kO_some {α : Type} (a : α) (cs : Cs) : kO (some a) cs = .ok a cs := rfl
theorem ofO_e {α : Type} (o : Option α) (cs : Cs) : M.ofO o cs = kO o cs := by cases o <;> rfl
theorem o_ixT (xs : List D) (i : Int) (cs : Cs) : opIx (.tup xs) (.int i) cs = kO (atI xs i) cs := ofO_e _ _
theorem o_ixL (xs : List D) (i : Int) (cs : Cs) : opIx (.lst xs) (.int i) cs = kO (atI xs i) cs := ofO_e _ _
theorem o_ixS (xs : List Int) (i : Int) (cs : Cs) : opIx (.scr xs) (.int i) cs = kO (atI (xs.map D.int) i) cs := ofO_e _ _
theorem o_ixR {xs : List D} {a : Nat} {cs : Cs} (h : cs[a]? = some xs) (i : Int) : opIx (.ref a) (.int i) cs = kO (atI xs i) cs := by
  show (match cs[a]? with
    | some xs => M.ofO (atI xs i) cs
    | none => .no) = _
  rw [h]
  exact ofO_e _ _
theorem at_0 (x : D) (xs : List D) : atI (x :: xs) 0 = some x := by
  unfold atI ixN
  rw [if_pos (by omega), if_pos (by simp only [List.length_cons]; omega)]
  rfl
theorem at_1 (x y : D) (xs : List D) : atI (x :: y :: xs) 1 = some y := by
  unfold atI ixN
  have h : (1 : Int) < ((x :: y :: xs).length : Int) := by simp only [List.length_cons]; omega
  rw [if_pos (by omega), if_pos (by simp only [List.length_cons]; omega)]
  rfl
theorem at_k {xs : List D} {i : Int} {k : Nat} {x : D} (hi : i = (k : Int)) (h : xs[k]? = some x) : atI xs i = some x := by
  have hk := (List.getElem?_eq_some_iff.mp h).1
  subst hi
  unfold atI ixN
  rw [if_pos (by omega), if_pos (by omega)]
  simpa using h
theorem at_last {xs : List D} {x : D} (h : xs.getLast? = some x) : atI xs (-1) = some x := by
  have hne : xs ≠ [] := fun e => by rw [e] at h; cases h
  have hl : 0 < xs.length := List.length_pos_iff.mpr hne
  rw [List.getLast?_eq_getElem?] at h
  unfold atI ixN
  rw [if_neg (by omega), if_pos (by omega)]
  rw [← h]
  show xs[_]? = _
  congr 1
  omega
theorem o_lenL (xs : List D) (cs : Cs) : opLen [.lst xs] cs = .ok (.int xs.length) cs := rfl
theorem o_lenT (xs : List D) (cs : Cs) : opLen [.tup xs] cs = .ok (.int xs.length) cs := rfl
theorem o_lenC (xs : List Int) (cs : Cs) : opLen [.scr xs] cs = .ok (.int xs.length) cs := by
  show Rs.ok (D.int ((xs.map D.int).length : Int)) cs = _
  rw [List.length_map]
theorem o_lenS (xs : Str) (cs : Cs) : opLen [.str xs] cs = @kI _ (szOk xs.length) (.ok (.int xs.length) cs) .no := by
  show (if _ then _ else _ : M D) cs = _
  rw [kI_fun]
  rfl
theorem o_lenR {xs : List D} {a : Nat} {cs : Cs} (h : cs[a]? = some xs) : opLen [.ref a] cs = .ok (.int xs.length) cs := by
  show (match cs[a]? with
    | some xs => Rs.ok (D.int xs.length) cs
    | none => .no) = _
  rw [h]
theorem o_max2 (i j : Int) (cs : Cs) : opMax2 [.int i, .int j] cs = .ok (.int (max i j)) cs := by
  show Rs.ok (D.int (if j > i then j else i)) cs = _
  congr 2
  omega
theorem o_min2 (i j : Int) (cs : Cs) : opMin2 [.int i, .int j] cs = .ok (.int (min i j)) cs := by
  show Rs.ok (D.int (if j < i then j else i)) cs = _
  congr 2
  omega
theorem o_intB (b : Bool) (cs : Cs) : opInt [.bl b] cs = .ok (.int (if b then 1 else 0)) cs := rfl
theorem o_intI (b : Int) (cs : Cs) : opInt [.int b] cs = .ok (.int b) cs := rfl
theorem o_listL (c : Bool) (xs : List D) (cs : Cs) : opList c [.lst xs] cs = mkL c xs cs := rfl
theorem o_listT (c : Bool) (xs : List D) (cs : Cs) : opList c [.tup xs] cs = mkL c xs cs := rfl
theorem o_listC (c : Bool) (xs : List Int) (cs : Cs) : opList c [.scr xs] cs = mkL c (xs.map .int) cs := rfl
theorem o_listR (c : Bool) {xs : List D} {a : Nat} {cs : Cs} (h : cs[a]? = some xs) : opList c [.ref a] cs = mkL c xs cs := by
  show (match cs[a]? with
    | some xs => mkL c xs cs
    | none => .no) = _
  rw [h]
theorem o_tupL (xs : List D) (cs : Cs) : opTuple [.lst xs] cs = .ok (.tup xs) cs := rfl
theorem o_rgL {c : Bool} {n : Nat} (h : n ≤ 1000000) (cs : Cs) : opRg false c (.int (n : Int)) cs = mkL c ((List.range n).map fun i => .int (i : Nat)) cs := by
  have e : rgOk 0 (n : Int) = true := by
    unfold rgOk szOk
    simp only [Bool.and_eq_true, decide_eq_true_eq]
    omega
  simp only [opRg, e, if_true, rngD]
  simp
theorem o_eqI (b : Bool) (i j : Int) (cs : Cs) : opEq b (.int i) (.int j) cs = .ok (.bl (if b = true then decide (i = j) else !decide (i = j))) cs := by
  show Rs.ok (D.bl (if b = true then PyData.eqv (.int i) (.int j) else !PyData.eqv (.int i) (.int j))) cs = _
  have e : PyData.eqv (.int i) (.int j) = decide (i = j) := by
    unfold PyData.eqv
    by_cases h : i = j <;> simp [h]
  rw [e]
set_option checkBinderAnnotations false in
def kFor [t : Tg] [b : En → M Fl] [env : En] (r : Rs It0) : Rs Fl := @kk _ _ r fun i => forGo i.live t b i.items env
theorem e_for (it : En → M It0) (t : Tg) (b : En → M Fl) (env : En) (cs : Cs) : sFor it t b env cs = @kFor t b env (it env cs) := bnd_kk ..
theorem e_itSeq (m : En → M D) (env : En) (cs : Cs) : itSeq m env cs = @kk _ _ (m env cs) fun d cs => @kk _ _ (kO (seqOf cs d) cs) fun xs cs => .ok ⟨xs, liveOf xs d⟩ cs := by
  show M.bnd (m env) _ cs = _
  rw [bnd_kk]
  refine kk_c fun d cs => ?_
  cases seqOf cs d <;> rfl
def vT : D → M It0
  | .tup xs => M.ret ⟨xs, fun _ => true⟩
  | _ => M.no
theorem vT_t (xs : List D) (cs : Cs) : vT (.tup xs) cs = .ok ⟨xs, fun _ => true⟩ cs := rfl
theorem e_itTup (m : En → M D) (env : En) (cs : Cs) : itTup m env cs = @kk _ _ (m env cs) vT := by
  show M.bnd (m env) _ cs = _
  exact bnd_kk ..
theorem e_itR1 (m : En → M D) (env : En) (cs : Cs) : itR1 m env cs = @kk _ _ (m env cs) opR1 := bnd_kk ..
theorem e_itR2 (a b : En → M D) (env : En) (cs : Cs) : itR2 a b env cs = @kk _ _ (a env cs) fun x cs => @kk _ _ (b env cs) fun y cs => opR2 x y cs := rfl
theorem o_R1 {n : Nat} (h : n ≤ 1000000) (cs : Cs) : opR1 (.int (n : Int)) cs = .ok ⟨(List.range n).map fun i => .int (i : Nat), fun _ => true⟩ cs := by
  have e : small62 (n : Int) = true := by
    unfold small62
    simp only [decide_eq_true_eq]
    omega
  simp only [opR1, e, if_true, rngD]
  simp [M.ret]
theorem seq_lst (cs : Cs) (xs : List D) : seqOf cs (.lst xs) = some xs := rfl
theorem seq_scr (cs : Cs) (xs : List Int) : seqOf cs (.scr xs) = some (xs.map .int) := rfl
theorem seq_ref (cs : Cs) (i : Nat) : seqOf cs (.ref i) = cs[i]? := rfl
theorem noRL_nil : noRL [] = true := rfl
theorem noRL_cons (d : D) (ds : List D) : noRL (d :: ds) = (noR d && noRL ds) := rfl
theorem noR_non : noR .non = true := rfl
theorem noR_bl (b : Bool) : noR (.bl b) = true := rfl
theorem noR_int (b : Int) : noR (.int b) = true := rfl
theorem noR_str (b : Str) : noR (.str b) = true := rfl
theorem noR_dic : noR .dic = true := rfl
theorem noR_scr (b : List Int) : noR (.scr b) = true := rfl
theorem noR_tup (b : List D) : noR (.tup b) = noRL b := rfl
theorem noR_lst (b : List D) : noR (.lst b) = noRL b := rfl
theorem noR_ref (b : Nat) : noR (.ref b) = false := rfl
theorem isD_nii : isD .int .non = false := rfl
theorem startE_e (k : Nat) (ds : List D) : startE k ds = ds.map some ++ List.replicate (k - ds.length) none := rfl
/-- a def's worth -/
def kP (r : Rs Fl) : Rp := match r with
  | .ok (.rt d) cs => (match res cs d with
    | some p => .ok p
    | none => .no)
  | .ok (.nx _) _ => .ok .non
  | .ok _ _ => .no
  | .ex x _ => .ex x
  | .no => .no
theorem e_runP (c : En → M Fl) (k : Nat) (ds : List D) : runP c k ds = kP (c (startE k ds) []) := rfl
def kQ (o : Option D) : Rp := match o with
  | some p => .ok p
  | none => .no
theorem kQ_some (d : D) : kQ (some d) = .ok d := rfl
theorem kP_rt (d : D) (cs : Cs) : kP (.ok (.rt d) cs) = kQ (res cs d) := by
  show (match res cs d with
    | some p => Rp.ok p
    | none => .no) = _
  cases res cs d <;> rfl
theorem kP_nx (e : En) (cs : Cs) : kP (.ok (.nx e) cs) = .ok .non := rfl
theorem kP_ex (e : Exn) (cs : Cs) : kP (.ex e cs) = .ex e := rfl
theorem res_bl (cs : Cs) (b : Bool) : res cs (.bl b) = some (.bl b) := rfl
theorem res_int (cs : Cs) (b : Int) : res cs (.int b) = some (.int b) := rfl
theorem res_str (cs : Cs) (b : Str) : res cs (.str b) = some (.str b) := rfl
theorem res_non (cs : Cs) : res cs .non = some .non := rfl
end G
namespace G
open L2 PySem PySem.Spec PyProof.Rows
theorem kFor_ok (t : Tg) (b : En → M Fl) (env : En) (xs : List D) (live : Cs → Bool) (cs : Cs) : @kFor t b env (.ok ⟨xs, live⟩ cs) = forGo live t b xs env cs := rfl
theorem o_eqIt (i j : Int) (cs : Cs) : opEq true (.int i) (.int j) cs = .ok (.bl (decide (i = j))) cs := o_eqI true i j cs
theorem o_eqIf (i j : Int) (cs : Cs) : opEq false (.int i) (.int j) cs = .ok (.bl (!decide (i = j))) cs := o_eqI false i j cs
/-- a def's worth: one that hands in and out; one that returns an own list -/
def kM (r : Rs Fl) : Rs D := match r with
  | .ok (.rt d) cs => .ok d cs
  | .ok (.nx _) cs => .ok .non cs
  | .ok _ _ => .no
  | .ex x cs => .ex x cs
  | .no => .no
theorem e_runM (c : En → M Fl) (k : Nat) (ds : List D) (cs : Cs) : runM c k ds cs = kM (c (startE k ds) cs) := by
  show M.bnd (c (startE k ds)) _ cs = _
  rw [bnd_kk]
  unfold kk kM
  cases c (startE k ds) cs with
  | ok f cs => cases f <;> rfl
  | ex _ _ => rfl
  | no => rfl
theorem kM_rt (d : D) (cs : Cs) : kM (.ok (.rt d) cs) = .ok d cs := rfl
theorem kM_nx (d : En) (cs : Cs) : kM (.ok (.nx d) cs) = .ok .non cs := rfl
theorem kM_ex (d : Exn) (cs : Cs) : kM (.ex d cs) = .ex d cs := rfl
def kPO (r : Rs Fl) : Rp := match r with
  | .ok (.rt (.ref i)) cs => (match cs[i]? with
    | some xs => if noRL xs = true then .ok (.lst xs) else .no
    | none => .no)
  | .ex x _ => .ex x
  | _ => .no
theorem e_runO (c : En → M Fl) (k : Nat) (ds : List D) : runO c k ds = kPO (c (startE k ds) []) := by
  unfold runO kPO
  rfl
theorem kPO_ok {i : Nat} {cs : Cs} {xs : List D} (h : cs[i]? = some xs) (hn : noRL xs = true) : kPO (.ok (.rt (.ref i)) cs) = .ok (.lst xs) := by
  show (match cs[i]? with
    | some xs => if noRL xs = true then Rp.ok (.lst xs) else .no
    | none => .no) = _
  rw [h]
  show (if noRL xs = true then Rp.ok (.lst xs) else .no) = _
  rw [if_pos hn]
theorem kPO_ex (d : Exn) (cs : Cs) : kPO (.ex d cs) = .ex d := rfl
/-- the first items of a loop gone over, by an invariant -/
theorem forGo_pre {live : Cs → Bool} {t : Tg} {b : En → M Fl} (I : Nat → En → Cs → Prop) {ys r : List D}
    (hl : ∀ i env cs, I i env cs → live cs = true)
    (hs : ∀ i x env cs, ys[i]? = some x → I i env cs → ∃ env1, tgS t x env = some env1 ∧ ∃ e' cs', b env1 cs = .ok (.nx e') cs' ∧ I (i + 1) e' cs') {env : En} {cs : Cs} (h0 : I 0 env cs) :
    ∃ e' cs', forGo live t b (ys ++ r) env cs = forGo live t b r e' cs' ∧ I ys.length e' cs' := by
  have gen : ∀ (zs : List D) (k : Nat), ys.drop k = zs → k ≤ ys.length → ∀ {env : En} {cs : Cs}, I k env cs → ∃ e' cs', forGo live t b (zs ++ r) env cs = forGo live t b r e' cs' ∧ I ys.length e' cs' := fun zs => by
    induction zs with
    | nil =>
      intro k e hk env cs h
      have ek := drop_nil e hk
      exact ⟨env, cs, rfl, by rw [← ek]; exact h⟩
    | cons y zs ih =>
      intro k e hk env cs h
      obtain ⟨hx, hr, hlt⟩ := getElem_drop e
      obtain ⟨env1, h1, e', cs', h2, h3⟩ := hs k y env cs hx h
      obtain ⟨e2, cs2, h4, h5⟩ := ih (k + 1) hr hlt h3
      refine ⟨e2, cs2, ?_, h5⟩
      show guardM live (match tgS t y env with
        | some env1 => M.bnd (b env1) _
        | none => M.no) cs = _
      unfold guardM
      rw [if_pos (hl _ _ _ h), h1]
      show M.bnd (b env1) _ cs = _
      rw [M.bnd_ok h2]
      exact h4
  exact gen ys 0 rfl (Nat.zero_le _) h0
/-- one step of a loop -/
theorem forGo_nx {live : Cs → Bool} {t : Tg} {b : En → M Fl} {x : D} {r : List D} {env env1 e : En} {cs cs1 : Cs} (hl : live cs = true) (ht : tgS t x env = some env1) (hb : b env1 cs = .ok (.nx e) cs1) : forGo live t b (x :: r) env cs = forGo live t b r e cs1 := by
  show guardM live (match tgS t x env with
    | some env1 => M.bnd (b env1) _
    | none => M.no) cs = _
  unfold guardM
  rw [if_pos hl, ht]
  show M.bnd (b env1) _ cs = _
  rw [M.bnd_ok hb]
theorem forGo_rt {live : Cs → Bool} {t : Tg} {b : En → M Fl} {x d : D} {r : List D} {env env1 : En} {cs cs1 : Cs} (hl : live cs = true) (ht : tgS t x env = some env1) (hb : b env1 cs = .ok (.rt d) cs1) : forGo live t b (x :: r) env cs = .ok (.rt d) cs1 := by
  show guardM live (match tgS t x env with
    | some env1 => M.bnd (b env1) _
    | none => M.no) cs = _
  unfold guardM
  rw [if_pos hl, ht]
  show M.bnd (b env1) _ cs = _
  rw [M.bnd_ok hb]
  rfl
theorem forGo_ex {live : Cs → Bool} {t : Tg} {b : En → M Fl} {x : D} {z : Exn} {r : List D} {env env1 : En} {cs cs1 : Cs} (hl : live cs = true) (ht : tgS t x env = some env1) (hb : b env1 cs = .ex z cs1) : forGo live t b (x :: r) env cs = .ex z cs1 := by
  show guardM live (match tgS t x env with
    | some env1 => M.bnd (b env1) _
    | none => M.no) cs = _
  unfold guardM
  rw [if_pos hl, ht]
  show M.bnd (b env1) _ cs = _
  rw [M.bnd_ex hb]
theorem forGo_end {live : Cs → Bool} {t : Tg} {b : En → M Fl} {env : En} {cs : Cs} (hl : live cs = true) : forGo live t b [] env cs = .ok (.nx env) cs := by
  show guardM live _ cs = _
  unfold guardM
  rw [if_pos hl]
  rfl
theorem live_lst (xs ys : List D) (cs : Cs) : liveOf xs (.lst ys) cs = true := rfl
theorem tgS_nm (i : Nat) (d : D) (env : En) : tgS (.nm i) d env = some (env.set i (some d)) := rfl
theorem tgS_tp2 (i j : Nat) (d e : D) (env : En) : tgS (.tp [i, j]) (.tup [d, e]) env = some ((env.set i (some d)).set j (some e)) := rfl
theorem isd_int (i : Int) : isD .int (.int i) = true := rfl
theorem isd_intb (i : Bool) : isD .int (.bl i) = true := rfl
theorem isd_bool (i : Int) : isD .bool (.int i) = false := rfl
theorem isd_boolb (i : Bool) : isD .bool (.bl i) = true := rfl
theorem isd_tup (i : List D) : isD .tuple (.tup i) = true := rfl
theorem isd_lst (i : List D) : isD .list (.lst i) = true := rfl
theorem isd_ref (i : Nat) : isD .list (.ref i) = true := rfl
end G
/-! G16: == of plain data; small tools for the plain part. -/
namespace G
open L2 PySem PySem.Spec PyProof.Rows
def okD : Nat → D → Bool
  | _, .non => true
  | _, .bl _ => true
  | _, .int _ => true
  | _, .str x => PyData.canLay0 (.str x)
  | n + 1, .tup xs => xs.all (okD n)
  | n + 1, .lst xs => xs.all (okD n)
  | _, _ => false
def pyD (d : D) : PyData := (pyG (fun _ => none) d).getD .none
theorem okD_py : ∀ (n : Nat) (d : D), okD n d = true → (∀ r, pyG r d = some (pyD d)) ∧ (pyD d).canLay0 = true ∧ (pyD d).depth ≤ n := fun n => by
  induction n with
  | zero =>
    intro d h
    cases d with
    | non | bl _ | int _ => exact ⟨fun r => rfl, rfl, Nat.le_refl _⟩
    | str x => exact ⟨fun r => rfl, h, Nat.le_refl _⟩
    | tup xs | lst xs | ref i | dic | scr ns => cases h
  | succ n ih =>
    intro d h
    have lists : ∀ xs : List D, xs.all (okD n) = true → ∃ ps, (∀ r, pyGL r xs = some ps) ∧ PyData.canLayAll0 ps = true ∧ PyData.depthAll ps ≤ n := fun xs => by
      induction xs with
      | nil => exact fun _ => ⟨[], fun r => rfl, rfl, by simp [PyData.depthAll]⟩
      | cons x xs ih2 =>
        intro h
        rw [List.all_cons, Bool.and_eq_true] at h
        obtain ⟨h1, h2⟩ := h
        obtain ⟨a1, a2, a3⟩ := ih x h1
        obtain ⟨ps, b1, b2, b3⟩ := ih2 h2
        refine ⟨pyD x :: ps, fun r => ?_, ?_, ?_⟩
        · show (match pyG r x, pyGL r xs with
            | some p, some ps => some (p :: ps)
            | _, _ => none) = _
          rw [a1, b1]
        · simp [PyData.canLayAll0, a2, b2]
        · simp only [PyData.depthAll]
          omega
    cases d with
    | non | bl _ | int _ => exact ⟨fun r => rfl, rfl, Nat.zero_le _⟩
    | str x => exact ⟨fun r => rfl, h, Nat.zero_le _⟩
    | tup xs =>
      obtain ⟨ps, b1, b2, b3⟩ := lists xs h
      have e : ∀ r, pyG r (.tup xs) = some (.tuple ps) := fun r => by
        show (pyGL r xs).map _ = _
        rw [b1]
        rfl
      have e2 : pyD (.tup xs) = .tuple ps := by
        unfold pyD
        rw [e]
        rfl
      rw [e2]
      refine ⟨e, ?_, ?_⟩
      · simpa [PyData.canLay0] using b2
      · simp only [PyData.depth]
        omega
    | lst xs =>
      obtain ⟨ps, b1, b2, b3⟩ := lists xs h
      have e : ∀ r, pyG r (.lst xs) = some (.list ps) := fun r => by
        show (pyGL r xs).map _ = _
        rw [b1]
        rfl
      have e2 : pyD (.lst xs) = .list ps := by
        unfold pyD
        rw [e]
        rfl
      rw [e2]
      refine ⟨e, ?_, ?_⟩
      · simpa [PyData.canLay0] using b2
      · simp only [PyData.depth]
        omega
    | ref i | dic | scr ns => cases h
theorem eq_ok {d e : D} {n m : Nat} (hd : okD n d = true) (he : okD m e = true) (hn : n ≤ 64) (hm : m ≤ 64) (b : Bool) (cs : Cs) : opEq b d e cs = .ok (.bl (if b = true then PyData.eqv (pyD d) (pyD e) else !PyData.eqv (pyD d) (pyD e))) cs := by
  obtain ⟨a1, a2, a3⟩ := okD_py n d hd
  obtain ⟨b1, b2, b3⟩ := okD_py m e he
  unfold opEq py
  rw [a1, b1]
  have s1 : SeqAt.shaped (pyD d) = true := by
    unfold SeqAt.shaped
    rw [a2, Bool.true_and]
    exact decide_eq_true (by omega)
  have s2 : SeqAt.shaped (pyD e) = true := by
    unfold SeqAt.shaped
    rw [b2, Bool.true_and]
    exact decide_eq_true (by omega)
  simp only [s1, s2, Bool.and_self, if_true]
mutual
theorem eqv_refl : ∀ p : PyData, p.canLay0 = true → PyData.eqv p p = true
  | .none, _ => rfl
  | .bool a, _ => by simp [PyData.eqv]
  | .int a, _ => by simp [PyData.eqv]
  | .str a, _ => by simp [PyData.eqv]
  | .list xs, h => by
    simp only [PyData.eqv]
    exact eqvAll_refl xs (by simpa [PyData.canLay0] using h)
  | .tuple xs, h => by
    simp only [PyData.eqv]
    exact eqvAll_refl xs (by simpa [PyData.canLay0] using h)
  | .dict _, h => by simp [PyData.canLay0] at h
theorem eqvAll_refl : ∀ ps : List PyData, PyData.canLayAll0 ps = true → PyData.eqvAll ps ps = true
  | [], _ => by simp [PyData.eqvAll]
  | p :: ps, h => by
    simp only [PyData.canLayAll0, Bool.and_eq_true] at h
    simp only [PyData.eqvAll, Bool.and_eq_true]
    exact ⟨eqv_refl p h.1, eqvAll_refl ps h.2⟩
end
theorem eq_refl {d : D} {n : Nat} (hd : okD n d = true) (hn : n ≤ 64) (cs : Cs) : opEq true d d cs = .ok (.bl true) cs := by
  rw [eq_ok hd hd hn hn, if_pos rfl, eqv_refl _ (okD_py n d hd).2.1]
theorem okD_net (N : Net) : okD 3 (netD N) = true := by
  show (N.map fun xs => D.lst (layD xs)).all (okD 2) = true
  rw [List.all_eq_true]
  intro x hx
  obtain ⟨L, _, rfl⟩ := List.mem_map.mp hx
  show (layD L).all (okD 1) = true
  rw [List.all_eq_true]
  intro y hy
  obtain ⟨p, _, rfl⟩ := List.mem_map.mp hy
  rfl
theorem okD_mono : ∀ (n : Nat) (d : D), okD n d = true → okD (n + 1) d = true := fun n => by
  induction n with
  | zero =>
    intro d h
    cases d with
    | non | bl _ | int _ => rfl
    | str x => exact h
    | tup xs | lst xs | ref i | dic | scr ns => cases h
  | succ n ih =>
    intro d h
    cases d with
    | non | bl _ | int _ => rfl
    | str x => exact h
    | tup xs | lst xs =>
      have h2 : xs.all (okD n) = true := h
      show xs.all (okD (n + 1)) = true
      rw [List.all_eq_true] at h2 ⊢
      exact fun x hx => ih x (h2 x hx)
    | ref i | dic | scr ns => cases h
theorem noRL_all : ∀ xs : List D, noRL xs = xs.all noR
  | [] => rfl
  | x :: xs => by
    show (noR x && noRL xs) = _
    rw [noRL_all xs, List.all_cons]
theorem okD_noR : ∀ (n : Nat) (d : D), okD n d = true → noR d = true := fun n => by
  induction n with
  | zero =>
    intro d h
    cases d with
    | non | bl _ | int _ | str _ => rfl
    | tup xs | lst xs | ref i | dic | scr ns => cases h
  | succ n ih =>
    intro d h
    cases d with
    | non | bl _ | int _ | str _ => rfl
    | tup xs | lst xs =>
      have h2 : xs.all (okD n) = true := h
      show noRL xs = true
      rw [noRL_all, List.all_eq_true]
      rw [List.all_eq_true] at h2
      exact fun x hx => ih x (h2 x hx)
    | ref i | dic | scr ns => cases h
mutual
theorem rsG_noR : ∀ (d : D) (r : Nat → Option D), noR d = true → rsG r d = some d
  | .non, _, _ | .bl _, _, _ | .int _, _, _ | .str _, _, _ | .dic, _, _ | .scr _, _, _ => rfl
  | .tup xs, r, h => by
    show (rsGL r xs).map _ = _
    rw [rsGL_noR xs r h]
    rfl
  | .lst xs, r, h => by
    show (rsGL r xs).map _ = _
    rw [rsGL_noR xs r h]
    rfl
  | .ref _, _, h => by cases h
theorem rsGL_noR : ∀ (xs : List D) (r : Nat → Option D), noRL xs = true → rsGL r xs = some xs
  | [], _, _ => rfl
  | x :: xs, r, h => by
    obtain ⟨h1, h2⟩ := Bool.and_eq_true_iff.mp (show (noR x && noRL xs) = true from h)
    show (match rsG r x, rsGL r xs with
      | some p, some ps => some (p :: ps)
      | _, _ => none) = _
    rw [rsG_noR x r h1, rsGL_noR xs r h2]
end
set_option checkBinderAnnotations false in
def kL (r : Rs Fl) [k : En → M Fl] : Rs Fl := match r with
  | .ok (.nx e) cs => k e cs
  | .ok (.ct e) cs => k e cs
  | .ok (.bk e) cs => .ok (.nx e) cs
  | .ok (.rt d) cs => .ok (.rt d) cs
  | .ex x cs => .ex x cs
  | .no => .no
theorem kL_nx (e : En) (cs : Cs) (k : En → M Fl) : @kL (.ok (.nx e) cs) k = k e cs := rfl
theorem kL_rt (e : D) (cs : Cs) (k : En → M Fl) : @kL (.ok (.rt e) cs) k = .ok (.rt e) cs := rfl
theorem kL_ex (e : Exn) (cs : Cs) (k : En → M Fl) : @kL (.ex e cs) k = .ex e cs := rfl
set_option checkBinderAnnotations false in
def kS (o : Option En) [k : En → Rs Fl] : Rs Fl := match o with
  | some e => k e
  | none => .no
theorem kS_some (e : En) (k : En → Rs Fl) : @kS (some e) k = k e := rfl
theorem e_fgo_cons (live : Cs → Bool) (t : Tg) (b : En → M Fl) (x : D) (r : List D) (env : En) (cs : Cs) : forGo live t b (x :: r) env cs = @kI _ (live cs) (@kS (tgS t x env) fun env1 => @kL (b env1 cs) (forGo live t b r)) .no := by
  show guardM live (match tgS t x env with
    | some env1 => M.bnd (b env1) _
    | none => M.no) cs = _
  unfold guardM kI
  congr 1
  cases tgS t x env with
  | none => rfl
  | some e =>
    show M.bnd (b e) _ cs = _
    rw [bnd_kk]
    unfold kk kS kL
    dsimp only
    cases b e cs with
    | ok f cs => cases f <;> rfl
    | ex _ _ => rfl
    | no => rfl
theorem e_fgo_nil (live : Cs → Bool) (t : Tg) (b : En → M Fl) (env : En) (cs : Cs) : forGo live t b [] env cs = @kI _ (live cs) (.ok (.nx env) cs) .no := rfl
theorem res_n {d : D} (cs : Cs) (h : noR d = true) : res cs d = some d := rsG_noR d _ h
end G
namespace G
open L2 PySem PySem.Spec PyProof.Rows
theorem intsOf_map (ns : List Int) : intsOf (ns.map D.int) = some ns := by
  induction ns with
  | nil => rfl
  | cons i r ih =>
    show (intsOf (r.map D.int)).map (i :: ·) = _
    rw [ih]
    rfl
theorem o_sum (ns : List Int) (cs : Cs) : opSum [.lst (ns.map D.int)] cs = .ok (.int ns.sum) cs := by
  show (match (some (ns.map D.int)).bind intsOf with
    | some ns => Rs.ok (D.int ns.sum) cs
    | none => .no) = _
  rw [Option.bind_some, intsOf_map]
theorem at_mod {xs : List D} {n : Nat} (h : xs.length = n) (hn : 0 < n) (c : Int) : ∃ x ∈ xs, atI xs (c % (n : Nat)) = some x := by
  have h1 : 0 ≤ c % (n : Nat) := Int.emod_nonneg _ (by omega)
  have h2 : c % (n : Nat) < n := Int.emod_lt_of_pos _ (by omega)
  have h3 : (c % (n : Nat)).toNat < xs.length := by omega
  exact ⟨xs[(c % (n : Nat)).toNat], List.getElem_mem h3, at_k (k := (c % (n : Nat)).toNat) (by omega) (List.getElem?_eq_getElem h3)⟩
theorem addL_ok {xs ys : List D} (h : xs.length + ys.length ≤ 1000000) (cs : Cs) : opAdd false (.lst xs) (.lst ys) cs = .ok (.lst (xs ++ ys)) cs := by
  rw [o_addL, show szOk (xs.length + ys.length) = true from decide_eq_true h]
  rfl
theorem addLc_ok {xs ys : List D} (h : xs.length + ys.length ≤ 1000000) (cs : Cs) : opAdd true (.lst xs) (.lst ys) cs = .ok (.ref cs.length) (cs ++ [xs ++ ys]) := by
  rw [o_addL, show szOk (xs.length + ys.length) = true from decide_eq_true h]
  rfl
theorem addT_ok {c : Bool} {xs ys : List D} (h : xs.length + ys.length ≤ 1000000) (cs : Cs) : opAdd c (.tup xs) (.tup ys) cs = .ok (.tup (xs ++ ys)) cs := by
  rw [o_addT, show szOk (xs.length + ys.length) = true from decide_eq_true h]
  rfl
theorem addS_ok {c : Bool} {xs ys : Str} (h : xs.length + ys.length ≤ 1000000) (cs : Cs) : opAdd c (.str xs) (.str ys) cs = .ok (.str (xs ++ ys)) cs := by
  rw [o_addS, show szOk (xs.length + ys.length) = true from decide_eq_true h]
  rfl
theorem wip_nil (env : En) : wip env [] = env := rfl
theorem wip_cons (env : En) (j : Nat) (js : List Nat) : wip env (j :: js) = (wip env js).set j none := rfl
theorem szOk_small {n : Nat} : szOk n = decide (n ≤ 1000000) := rfl
/-- slices -/
theorem e_pNo (env : En) (cs : Cs) : pNo env cs = .ok none cs := rfl
def vI : D → M (Option Int)
  | .int i => M.ret (some i)
  | _ => M.no
theorem vI_i (i : Int) (cs : Cs) : vI (.int i) cs = .ok (some i) cs := rfl
theorem e_pSome (a : En → M D) (env : En) (cs : Cs) : pSome a env cs = @kk _ _ (a env cs) vI := by
  show M.bnd (a env) _ cs = _
  exact bnd_kk ..
theorem e_sl (c : Bool) (a : En → M D) (lo hi : En → M (Option Int)) (env : En) (cs : Cs) : xSl c a lo hi env cs = @kk _ _ (a env cs) fun d cs => @kk _ _ (lo env cs) fun l cs => @kk _ _ (hi env cs) fun u cs => @kk _ _ (kO (seqOf cs d) cs) fun xs cs => mkL c (cutD xs l u) cs := by
  show M.bnd (a env) _ cs = _
  rw [bnd_kk]
  refine kk_c fun d cs => ?_
  rw [bnd_kk]
  refine kk_c fun l cs => ?_
  rw [bnd_kk]
  refine kk_c fun u cs => ?_
  cases seqOf cs d <;> rfl
theorem sIx_k {n k d : Nat} (h : k ≤ n) : HT.sIx n d (some (k : Int)) = k := by
  rw [HT.sIx_nat, Nat.min_eq_left h]
theorem cut_to {xs : List D} {k : Nat} (h : k ≤ xs.length) : cutD xs none (some (k : Int)) = xs.take k := by
  unfold cutD
  rw [sIx_k h]
  simp [HT.sIx]
theorem cut_from {xs : List D} {k : Nat} (h : k ≤ xs.length) : cutD xs (some (k : Int)) none = xs.drop k := by
  unfold cutD
  rw [sIx_k h]
  simp only [HT.sIx]
  exact List.take_of_length_le (by simp)
end G
namespace G
open L2 PySem PySem.Spec PyProof.Rows
/-! try -/
def kW5 (r : Rs Fl) : Rs Fl := match r with
  | .ok f cs => .ok f cs
  | .ex x cs => (match wordD5 x with
    | some d => .ok (.rt d) cs
    | none => .no)
  | .no => .no
theorem e_try5 (i : Nat) (b : En → M Fl) (env : En) (cs : Cs) : sTryW5 i b env cs = @kI _ (decide (i < env.length)) (kW5 (b env cs)) .no := by
  unfold sTryW5 kI kW5
  simp only [decide_eq_true_eq] <;> rfl
theorem kW5_ok (f : Fl) (cs : Cs) : kW5 (.ok f cs) = .ok f cs := rfl
theorem kW5_lines (cs : Cs) : kW5 (.ex .lines cs) = .ok (.rt (.lst [.str (PySem.Str.ofString "lines")])) cs := rfl
theorem kW5_thing (cs : Cs) : kW5 (.ex .thing cs) = .ok (.rt (.lst [.str (PySem.Str.ofString "thing")])) cs := rfl
theorem kW5_kind (cs : Cs) : kW5 (.ex .kind cs) = .ok (.rt (.lst [.str (PySem.Str.ofString "kind")])) cs := rfl
theorem kW5_nonet (cs : Cs) : kW5 (.ex .nonet cs) = .ok (.rt (.lst [.str (PySem.Str.ofString "none")])) cs := rfl
theorem kW5_net (o : Option Int) (cs : Cs) : kW5 (.ex (.net o) cs) = .ok (.rt (.lst [.str (PySem.Str.ofString "net"), atD o])) cs := rfl
theorem noR_atD (o : Option Int) : noR (atD o) = true := by cases o <;> rfl
theorem okD_atD (o : Option Int) : okD 0 (atD o) = true := by cases o <;> rfl
theorem eqX_of {d e : D} (h : d ≠ .dic) (b : Bool) (cs : Cs) : opEqX b d e cs = opEq b d e cs := by
  cases d <;> first | rfl | exact absurd rfl h
theorem eqX_dic (b : Bool) (cs : Cs) : opEqX b .dic .dic cs = .ok (.bl b) cs := rfl
theorem eqX_i (i j : Int) (cs : Cs) : opEqX true (.int i) (.int j) cs = .ok (.bl (decide (i = j))) cs := o_eqI true i j cs
theorem eqX_refl {d : D} {n : Nat} (hd : okD n d = true) (hn : n ≤ 64) (cs : Cs) : opEqX true d d cs = .ok (.bl true) cs := by
  rw [eqX_of (fun e => by subst e; cases n <;> cases hd)]
  exact eq_refl hd hn cs
end G
/-! G17: items stored, things popped. -/
namespace G
open L2 PySem PySem.Spec PyProof.Rows
set_option checkBinderAnnotations false in
def kSet [env : En] (y d k : D) (cs : Cs) : Rs Fl := match d, k with
  | .ref a, .int j => (match cs[a]? with
    | some xs => (match ixN xs.length j with
      | some n => .ok (.nx env) (cs.set a (xs.set n y))
      | none => .no)
    | none => .no)
  | _, _ => .no
theorem e_setIx (v o i : En → M D) (env : En) (cs : Cs) : sSetIx v o i env cs = @kk _ _ (v env cs) fun y cs => @kk _ _ (o env cs) fun d cs => @kk _ _ (i env cs) fun k cs => @kSet env y d k cs := by
  show M.bnd (v env) _ cs = _
  rw [bnd_kk]
  refine kk_c fun y cs => ?_
  rw [bnd_kk]
  refine kk_c fun d cs => ?_
  rw [bnd_kk]
  refine kk_c fun k cs => ?_
  cases d <;> first | rfl | (cases k <;> rfl)
theorem kSet_ok {env : En} {a n : Nat} {j : Int} {xs : List D} {y : D} {cs : Cs} (h : cs[a]? = some xs) (hj : j = (n : Nat)) (hn : n < xs.length) : @kSet env y (.ref a) (.int j) cs = .ok (.nx env) (cs.set a (xs.set n y)) := by
  subst hj
  have e : ixN xs.length ((n : Nat) : Int) = some n := by
    unfold ixN
    rw [if_pos (by omega), if_pos (by omega)]
    simp
  simp only [kSet, h, e]
set_option checkBinderAnnotations false in
def kRef [k : Nat → Cs → Rs D] (d : D) (cs : Cs) : Rs D := match d with
  | .ref i => k i cs
  | _ => .no
theorem kRef_r (k : Nat → Cs → Rs D) (i : Nat) (cs : Cs) : @kRef k (.ref i) cs = k i cs := rfl
theorem e_app (o v : En → M D) (env : En) (cs : Cs) : xApp o v env cs = @kk _ _ (o env cs) fun d cs => @kRef (fun i cs => @kk _ _ (v env cs) (cApp i)) d cs := by
  show M.bnd (o env) _ cs = _
  rw [bnd_kk]
  refine kk_c fun d cs => ?_
  cases d <;> rfl
theorem e_popAt (o v : En → M D) (env : En) (cs : Cs) : xPopAt o v env cs = @kk _ _ (o env cs) fun d cs => @kRef (fun i cs => @kk _ _ (v env cs) (cPopAt i)) d cs := by
  show M.bnd (o env) _ cs = _
  rw [bnd_kk]
  refine kk_c fun d cs => ?_
  cases d <;> rfl
theorem cApp_ok {i : Nat} {xs : List D} {cs : Cs} (y : D) (h : cs[i]? = some xs) (hz : xs.length ≤ 1000000) : cApp i y cs = .ok .non (cs.set i (xs ++ [y])) := by
  unfold cApp
  rw [h]
  show (if szOk xs.length = true then _ else _) = _
  rw [if_pos (show szOk xs.length = true from decide_eq_true hz)]
theorem cPopAt_ok {i n : Nat} {j : Int} {xs : List D} {cs : Cs} (h : cs[i]? = some xs) (hj : j = (n : Nat)) (hn : n < xs.length) (hz : xs.length ≤ 1000000) : cPopAt i (.int j) cs = .ok xs[n] (cs.set i (xs.eraseIdx n)) := by
  subst hj
  show (match cs[i]? with
    | some xs => if decide (0 ≤ ((n : Nat) : Int) ∧ ((n : Nat) : Int) < xs.length ∧ ((n : Nat) : Int) < 2 ^ 63) = true then (match xs[((n : Nat) : Int).toNat]? with
      | some y => Rs.ok y (cs.set i (xs.eraseIdx ((n : Nat) : Int).toNat))
      | none => .no) else .no
    | none => .no) = _
  rw [h]
  dsimp only
  rw [if_pos (decide_eq_true (by omega)), Int.toNat_natCast, List.getElem?_eq_getElem hn]
theorem e_callO2 (f : List D → Rp2) (a : En → M (List D)) (env : En) (cs : Cs) (L : List (List D)) (xs : List D) (cs1 : Cs) (h : a env cs = .ok xs cs1) (hn : noRL xs = true) (hf : f xs = .ok L) (hL : L.all noRL = true) : xCallO2 f a env cs = .ok (.lst (refsN cs1.length L.length)) (cs1 ++ L) := callO2_ok h hn hf hL
end G
/-! G18: the law's word where the fourth question is only whether it is BadNet. -/
namespace G
open L2 PySem PySem.Spec PyProof.Rows
/-- what the second word's def does with an error of one of the four -/
def tWord4b (K : PySem.W.Frag) (a : Addr) (y : X4) : TS :=
  tSeq (tAsg (tLst (tCons (tEb 0 a (y.eqb .kind)) (tCons (tEb 0 a (y.eqb .thing)) (tCons (tEb 0 a (y.eqb .lines)) (tCons (tEb 0 a false) tNil))))) (gName 1))
    (tSeq (tDrop (tBM K "list" rAppend (tVar 1) (tCons (tEb 0 a (y.eqb .nonet)) tNil)))
      (tSeq (tIfS (tOr (tTest (tOp rNe (tBM K "list" (rCntF K) (tVar 1) (tCons (tC (V.bl true)) tNil)) (tC (V.int 1)))) (tNot (tB (tEb 0 a true)))) (tRet (tLst (tCons (tC (V.str (PySem.Str.ofString "other"))) tNil))) tNext)
        (tSeq (tIfS (tB (tEb 0 a false)) (fun _ _ _ => False) tNext)
          (tRet (tLst (tCons (tOp (rIx K) (tLst (tCons (tC (.str (PySem.Str.ofString "kind"))) (tCons (tC (.str (PySem.Str.ofString "thing"))) (tCons (tC (.str (PySem.Str.ofString "lines"))) (tCons (tC (.str (PySem.Str.ofString "net"))) (tCons (tC (.str (PySem.Str.ofString "none"))) tNil)))))) (tBM K "list" (rIndex K) (tVar 1) (tCons (tC (V.bl true)) tNil))) tNil))))))
theorem word_wish4b {K : PySem.W.Frag} {a : Addr} {y : X4} {H : Hp} {Q : VK} (hq : ∀ l H', H l = none → Ext H H' → H' l = some (.lst [.str y.word]) → Q (.ref l) H') : tWord4b K a y { nx := fun _ H' => Q .non H', rt := Q } (L2.start ["_law_e", "_law_mine"] [.ref a]) H := by
  refine ⟨rfl, rfl, rfl, rfl, (by decide : 4 ≤ sizeLine), fun l hl => ?_⟩
  refine ⟨.ref l, rfl, .inl ⟨rfl, _, SqL.of upd_same⟩, rfl, l, _, _, rfl, rfl, upd_same, (by decide : 4 < sizeLine), ?_⟩
  refine ⟨.ref l, rfl, .inl ⟨rfl, _, SqL.of upd_same⟩, l, _, .bl true, rfl, rfl, SqL.of upd_same, rfl, by cases y <;> rfl, by cases y <;> rfl, false, by cases y <;> rfl, ?_⟩
  refine (if_neg Bool.false_ne_true).mpr ?_
  refine ⟨rfl, true, rfl, ?_⟩
  refine (if_neg Bool.false_ne_true).mpr ?_
  refine ⟨rfl, false, rfl, ?_⟩
  refine (if_neg Bool.false_ne_true).mpr ?_
  refine ⟨by decide, fun l2 hl2 => ?_⟩
  have n12 : l ≠ l2 := fun e => by
    rw [← e, upd_same] at hl2
    cases hl2
  refine ⟨.ref l, rfl, .inl ⟨rfl, _, SqL.of (by rw [upd_ne n12]; exact upd_same)⟩, l, _, .bl true, y.at5, .bl true, rfl, rfl, SqL.of (by rw [upd_ne n12]; exact upd_same), rfl, by cases y <;> rfl, by cases y <;> rfl, rfl, ?_, ?_⟩
  · intro m z hm hz
    cases y with
    | kind => exact absurd hm (by simp [X4.at5])
    | thing => match m, hm, hz with
      | 0, _, hz => cases hz; rfl
    | lines => match m, hm, hz with
      | 0, _, hz => cases hz; rfl
      | 1, _, hz => cases hz; rfl
    | nonet => match m, hm, hz with
      | 0, _, hz => cases hz; rfl
      | 1, _, hz => cases hz; rfl
      | 2, _, hz => cases hz; rfl
      | 3, _, hz => cases hz; rfl
  · refine .inl ⟨l2, wordsV, _, .str y.word, rfl, rfl, SqL.of upd_same, by cases y <;> rfl, ?_⟩
    refine ⟨(by decide : 1 ≤ sizeLine), fun l3 hl3 => hq l3 _ ?_ ?_ upd_same⟩
    · have n23 : l3 ≠ l2 := fun e => by
        rw [e, upd_same] at hl3
        cases hl3
      rw [upd_ne n23] at hl3
      have n13 : l3 ≠ l := fun e => by
        rw [e, upd_same] at hl3
        cases hl3
      rw [upd_ne n13, upd_ne n13] at hl3
      exact hl3
    · intro b o hb
      have nb : b ≠ l := ne_of_none hb hl
      have hl2' : H l2 = none := by
        rw [upd_ne (Ne.symm n12), upd_ne (Ne.symm n12)] at hl2
        exact hl2
      have nb2 : b ≠ l2 := ne_of_none hb hl2'
      have n3 : b ≠ l3 := fun e => by
        rw [← e, upd_ne nb2, upd_ne nb, upd_ne nb, hb] at hl3
        cases hl3
      rw [upd_ne n3, upd_ne nb2, upd_ne nb, upd_ne nb]
      exact hb
/-- .. with BadNet's -/
def tWordNb (K : PySem.W.Frag) (a dd : Addr) (o : Option Int) : TS :=
  tSeq (tAsg (tLst (tCons (tEd 0 a dd o false) (tCons (tEd 0 a dd o false) (tCons (tEd 0 a dd o false) (tCons (tEd 0 a dd o true) tNil))))) (gName 1))
    (tSeq (tDrop (tBM K "list" rAppend (tVar 1) (tCons (tEd 0 a dd o false) tNil)))
      (tSeq (tIfS (tOr (tTest (tOp rNe (tBM K "list" (rCntF K) (tVar 1) (tCons (tC (V.bl true)) tNil)) (tC (V.int 1)))) (tNot (tB (tEd 0 a dd o true)))) (tRet (tLst (tCons (tC (V.str (PySem.Str.ofString "other"))) tNil))) tNext)
        (tSeq (tIfS (tB (tEd 0 a dd o true)) (tRet (tLst (tCons (tC (.str (PySem.Str.ofString "net"))) (tCons (tAt 0 a dd o) tNil)))) tNext) (fun _ _ _ => False))))
theorem word_wishNb {K : PySem.W.Frag} {a dd : Addr} {o : Option Int} {H : Hp} {Q : VK} (hd : Dd H dd o) (hq : ∀ l H', H l = none → Ext H H' → H' l = some (.lst [.str (PySem.Str.ofString "net"), atV o]) → Q (.ref l) H') : tWordNb K a dd o { nx := fun _ H' => Q .non H', rt := Q } (L2.start ["_law_e", "_law_mine"] [.ref a]) H := by
  refine ⟨rfl, hd, rfl, hd, rfl, hd, rfl, hd, (by decide : 4 ≤ sizeLine), fun l hl => ?_⟩
  have x1 : Ext H (upd H l (.lst [.bl false, .bl false, .bl false, .bl true])) := Ext.new hl
  have x2 : Ext H (upd (upd H l (.lst [.bl false, .bl false, .bl false, .bl true])) l (.lst [.bl false, .bl false, .bl false, .bl true, .bl false])) := fun b u hb => by
    have nb : b ≠ l := ne_of_none hb hl
    rw [upd_ne nb, upd_ne nb]
    exact hb
  refine ⟨.ref l, rfl, .inl ⟨rfl, _, SqL.of upd_same⟩, rfl, hd.ext x1, l, _, _, rfl, rfl, upd_same, (by decide : 4 < sizeLine), ?_⟩
  have d2 := hd.ext x2
  refine ⟨.ref l, rfl, .inl ⟨rfl, _, SqL.of upd_same⟩, l, _, .bl true, rfl, rfl, SqL.of upd_same, rfl, rfl, rfl, false, rfl, ?_⟩
  refine (if_neg Bool.false_ne_true).mpr ⟨rfl, d2, true, rfl, ?_⟩
  refine (if_neg Bool.false_ne_true).mpr ?_
  refine ⟨rfl, d2, true, rfl, ?_⟩
  refine (if_pos rfl).mpr ⟨rfl, d2, (by decide : 2 ≤ sizeLine), fun l3 hl3 => hq l3 _ ?_ ?_ upd_same⟩
  · have n3 : l3 ≠ l := fun e => by
      rw [e, upd_same] at hl3
      cases hl3
    rw [upd_ne n3, upd_ne n3] at hl3
    exact hl3
  · intro b u hb
    have n3 : b ≠ l3 := fun e => by
      have := x2 b u hb
      rw [e] at this
      have z := this.symm.trans (show _ = none from hl3)
      cases z
    rw [upd_ne n3]
    exact x2 b u hb
end G
/-! G19: list(reversed(x)), x a list. -/
namespace G
open L2 PySem PySem.Spec PyProof.Rows
open RT
section
variable {prog : Program} {w : World} {A : Around} {E : Value → Shared → Prop} {s : Shared}
theorem extend_rev {R : Result → Shared → Prop} {it l S : Addr} {items : Array Value} (hh : A.handled = none) (hit : s.heap.IsRevIter it l ((items.size : Int) - 1)) (hl : s.heap.IsList l items) (hne : l ≠ it) (hn : items.size ≤ sizeLine) (hSi : S ≠ it) (hSl : S ≠ l)
    (hS : s.heap.get? S = some { cls := .type "list", data := .seq #[] })
    (hR : ∀ (h' : Heap) (tk : Nat) (acc : Array Value) (c' : Nat), (∀ b o, b ≠ it → b ≠ S → s.heap.get? b = some o → h'.get? b = some o) → h'.get? S = some { cls := .type "list", dict := none, data := .seq acc c', slots := #[] } → ItemsOf (fun i v => items[items.size - 1 - i]? = some v) acc items.size → R (.ok (.ret .none)) { s with heap := h', toks := tk }) :
    wpAny (model prog w) A.in1 (Builtin.List.listExtendWith (.ref S) (.ref it) .none)
      (fun fin s' => match fin with | .done f => R (.ok f) s' | .again c' => c'.quiet = true ∧ codeAny (model prog w) A c' R s') (fun e s' => R (.error e) s') s := by
  have W := (Walks.listRev (prog := prog) (w := w) (A := A.in1) hh it l hne items).toS
  have hSf : S ∉ [it, l] := by simp only [List.mem_cons, List.not_mem_nil, or_false, not_or]; exact ⟨hSi, hSl⟩
  have hT : s.TypeIs (.ref it) "list_reverseiterator" := Heap.IsRevIter.typeIs hit
  have h1 : Builtin.List.listSameRef (.ref S) (.ref it) = false := by simp [Builtin.List.listSameRef, hSi]
  unfold Builtin.List.listExtendWith
  refine wpAny_bind (wpAny_typeOf hT ?_)
  rw [if_neg (by rw [h1]; decide)]
  refine wpAny_bind (wpAny_pyIter_revIter hit ?_)
  refine wpAny_bind (wpAny_holding ?_)
  unfold Builtin.List.listLengthHint
  refine wpAny_bind (wpAny_specialOf hT nolen_lri ?_)
  show wpAny _ A.in1 (specialOf (Value.ref it) (Str.ofString "__length_hint__") >>= _) _ _ _
  refine wpAny_bind (wpAny_specialOf hT hint_lri ?_)
  generalize hid : ("list_reverseiterator.__length_hint__" : String) = id0
  wp_delta
  rw [show splitId id0 = some ("list_reverseiterator", "__length_hint__") from by subst hid; decide +kernel]
  subst hid
  refine wpAny_bind (wpAny_isInstance (b := true) hT (by rw [isSubtype_type]; kernel_rfl) ?_)
  refine wpAny_pure ?_
  rw [if_neg (by decide)]
  have e0 : ((items.size : Nat) : Int) - 1 - ((0 : Nat) : Int) = (items.size : Int) - 1 := by omega
  refine wpAny_pure ⟨plainId_quiet F.plain_extend_loop _, codeAny_extend_loopS W hn _ hSf _ items.size 0 _ _ _ rfl (Nat.zero_le _) ⟨Nat.zero_le _, by rw [e0]; exact hit, hl⟩ hS (ItemsOf.nil _) fun s' acc' c' hm hS' hacc => ?_⟩
  rw [Moved.eq_with hm]
  refine hR s'.heap s'.toks acc' c' (fun b o hb hb2 e => hm.heap b o (fun hmem => ?_) e) hS' hacc
  rcases List.mem_cons.mp hmem with e' | hmem
  · exact hb2 e'
  · exact hb (List.mem_singleton.mp hmem)
theorem call_list_rev {it l : Addr} {items : Array Value} {Q : Value → Shared → Prop} (hh : A.handled = none) (hit : s.heap.IsRevIter it l ((items.size : Int) - 1)) (hl : s.heap.IsList l items) (hne : l ≠ it) (hn : items.size ≤ sizeLine)
    (hQ : ∀ (h' : Heap) (tk : Nat) (acc : Array Value) (c' : Nat), (∀ b o, b ≠ it → s.heap.get? b = some o → h'.get? b = some o) → h'.get? s.heap.objs.size = some { cls := .type "list", dict := none, data := .seq acc c', slots := #[] } → ItemsOf (fun i v => items[items.size - 1 - i]? = some v) acc items.size →
      Q (.ref s.heap.objs.size) { s with heap := h', toks := tk }) :
    wpAny (model prog w) A (call (.type "list") [.ref it]) Q E s := by
  obtain ⟨oi, hoi, _⟩ := id hit
  obtain ⟨ol, hol, _⟩ := id hl
  have hSi : s.heap.objs.size ≠ it := Nat.ne_of_gt (Heap.lt_size hoi)
  have hSl : s.heap.objs.size ≠ l := Nat.ne_of_gt (Heap.lt_size hol)
  refine callType_codes (Q₁ := fun obj s₁ => obj = .ref s.heap.objs.size ∧ s₁ = { s with heap := s.heap.push { cls := .type "list", data := .seq #[] } }) F.called_list (F.typeCall_list_1 _) F.entry_list_init
    (code_list_new _ ⟨rfl, rfl⟩) fun obj s₁ h₁ => ?_
  obtain ⟨rfl, rfl⟩ := h₁
  have hS : (s.heap.push { cls := .type "list", data := .seq #[] }).get? s.heap.objs.size = some { cls := .type "list", data := .seq #[] } := Heap.get?_push_size _ rfl
  refine ⟨⟨_, hS, rfl⟩, F.args_list_init_2 _ _, ?_⟩
  show wpAny _ A.in1.in1 (do let old ← Builtin.List.listItems (.ref s.heap.objs.size); Builtin.List.listUpdate (.ref s.heap.objs.size) (fun _ => #[]); letGo old.toList.reverse; Builtin.List.listExtendWith (.ref s.heap.objs.size) (.ref it) .none) _ _ _
  refine wpAny_bind ?_
  unfold Builtin.List.listItems
  refine wpAny_bind (wpAny_seqItems hS rfl (wpAny_pure ?_))
  show wpAny _ A.in1.in1 (updateSeq s.heap.objs.size (fun _ => #[]) >>= fun _ => letGo (#[] : Array Value).toList.reverse >>= fun _ => Builtin.List.listExtendWith (.ref s.heap.objs.size) (.ref it) .none) _ _ _
  refine wpAny_bind (wpAny_updateSeq hS rfl ?_)
  have hS₂ := Heap.get?_update_self (Obj.mapSeq (fun _ => (#[] : Array Value))) hS rfl
  have oth : ∀ b o, b ≠ s.heap.objs.size → s.heap.get? b = some o → ((s.heap.push { cls := .type "list", data := .seq #[] }).update s.heap.objs.size (Obj.mapSeq (fun _ => (#[] : Array Value)))).get? b = some o :=
    fun b o hb e => (Heap.get?_update_other _ _ (Ne.symm hb)).trans (Heap.get?_push_of_some _ e)
  refine wpAny_bind (wpAny_letGo ?_)
  refine extend_rev (A := A.in1) hh (hit.at fun o e => oth it o (Ne.symm hSi) e) (hl.at fun o e => oth l o (Ne.symm hSl) e) hne hn hSi hSl hS₂ fun h' tk acc c' hk hS' hacc => ?_
  exact ⟨rfl, hQ h' tk acc c' (fun b o hb e => hk b o hb (Nat.ne_of_lt (Heap.lt_size e)) (oth b o (Nat.ne_of_lt (Heap.lt_size e)) e)) hS' hacc⟩
end
end G
namespace G
open L2 PySem PySem.Spec PyProof.Rows
open RT
def tListRev (K : PySem.W.Frag) (te : TE) : TE := fun σ H Q => te σ H fun v H1 => ∃ (a : Addr) (xs : List V), v = .ref a ∧ SqL K H1 a xs ∧ ∀ q, H1 q = none → Q (.ref q) (upd H1 q (.lst xs.reverse))
theorem pe_listRev {X : Cx} {e : Expr} {te : TE} {p p2 pos pos2 : Pos} (hc : X.calm = true) (hg : Gl X "list") (hm : X.mg "list" = none) (hg2 : Gl X "reversed") (hm2 : X.mg "reversed" = none) (he : PE X e te)
    (hs : starEach [e] X.env = (false, eval e X.env) :: starEach [] X.env := by rfl)
    (hs2 : starEach [.Call (.Name "reversed" p2) [e] [] pos2] X.env = (false, eval (.Call (.Name "reversed" p2) [e] [] pos2) X.env) :: starEach [] X.env := by rfl) :
    PE X (.Call (.Name "list" p) [.Call (.Name "reversed" p2) [e] [] pos2] [] pos) (tListRev X.K te) := by
  refine ⟨fun pins s σ H Q I h => ?_⟩
  refine Call_ (ld_blt I hg hm boot_list (PyProof.Rows.callWith_type1 (args_cons (Call_ (ld_blt I hg2 hm2 PyProof.Rows.boot_reversed (PyProof.Rows.callWith_type1 (args_cons (thn (he.run pins s σ H _ I h) fun u s1 ⟨v, H1, I1, r1, q1⟩ => args_nil ?_) hs) hs rfl))) hs2) hs2 rfl))
  obtain ⟨a, xs, ev, hq, q⟩ := q1
  subst ev
  obtain rfl : u = Value.ref a := r1
  obtain ⟨its, rv, p', hz⟩ := I1.list hq
  refine call_reversed_list p'.isList (args_nil ?_)
  have k0 : ∀ b o, s1.heap.get? b = some o → (s1.heap.push (revObj a ((its.toArray.size : Int) - 1))).get? b = some o := fun b o e => Heap.get?_push_of_some _ e
  have hl := p'.isList
  obtain ⟨ol, hol, _⟩ := id hl
  have hne : a ≠ s1.heap.objs.size := Nat.ne_of_lt (Heap.lt_size hol)
  have hn : its.toArray.size ≤ sizeLine := by rw [List.size_toArray, ← rv.length]; exact hz
  refine call_list_rev (s := { s1 with heap := s1.heap.push (revObj a ((its.toArray.size : Int) - 1)) }) (I1.ok.hd hc) ⟨_, Heap.get?_push_size _ rfl, rfl, rfl⟩ (hl.push _) hne hn fun h' tk acc c' hk hS' hi => ?_
  have hsz : s1.heap.objs.size ≤ (s1.heap.push (revObj a ((its.toArray.size : Int) - 1))).objs.size := by
    show _ ≤ (s1.heap.objs.push _).size
    rw [Array.size_push]
    omega
  refine ⟨.ref (s1.heap.push (revObj a ((its.toArray.size : Int) - 1))).objs.size, upd H1 (s1.heap.push (revObj a ((its.toArray.size : Int) - 1))).objs.size (.lst xs.reverse), I1.laid (h' := h') (t' := tk) (fun b o e => hk b o (Nat.ne_of_lt (Heap.lt_size e)) (k0 b o e)) hsz (show ObjOk X.prog X.w _ _ _ (.lst xs.reverse) from ⟨by rw [List.length_reverse]; exact hz, acc.toList, c', vals_rev rv hi, ?_⟩), rfl, q _ (I1.hok.fresh hsz)⟩
  rw [Array.toArray_toList]
  exact hS'
section
variable {X : Cx} {ct : Ct} {W : WX} {e : Expr} {me : En → M D} {p p2 pos pos2 : Pos}
theorem ge_listRev (c : Bool) (hc : X.calm = true) (hg : Gl X "list") (hm : X.mg "list" = none) (hg2 : Gl X "reversed") (hm2 : X.mg "reversed" = none) (he : PE X e (tD X.K ct W me)) (hs : starEach [e] X.env = (false, eval e X.env) :: starEach [] X.env := by rfl)
    (hs2 : starEach [.Call (.Name "reversed" p2) [e] [] pos2] X.env = (false, eval (.Call (.Name "reversed" p2) [e] [] pos2) X.env) :: starEach [] X.env := by rfl) :
    PE X (.Call (.Name "list" p) [.Call (.Name "reversed" p2) [e] [] pos2] [] pos) (tD X.K ct W (xUn (opRev c) me)) := PE.imp (pe_listRev hc hg hm hg2 hm2 he hs hs2) (by
  rintro σ H Q ⟨F, as, env, cs, ok, sl, h⟩
  refine ⟨F, as, env, cs, ok, sl, out_imp (out_bnd h) fun d cs1 F1 H1 as1 g1 ok1 h1 v hv => ?_⟩
  unfold opRev at h1
  split at h1
  · rename_i xs q
    obtain ⟨a, ys, rfl, h4, lk⟩ := seq_at ok1 hv q
    exact ⟨a, ys, rfl, h4, new_mk ok1 lk.rev h1⟩
  · exact False.elim h1)
end
end G
/-! G20: min(xs, default=k); three comparisons in a row. -/
namespace G
open L2 PySem PySem.Spec PyProof.Rows
section
variable {prog : Program} {w : World} {A : Around} {R : Result → Shared → Prop} {I : Addr} {fp wr : List Addr} {n : Nat} {P : Nat → Value → Prop} {St : Nat → Heap → Prop} {kw : List (Str × Value)}
theorem md_args (x d : Value) : argsOk "min" ⟨[x], [(Str.ofString "default", d)]⟩ := by unfold argsOk; kernel_rfl
theorem md_nm : (toString "min" ++ toString ".loop" : String) = "min.loop" := by decide
/-- the turns behind the first one, whatever the keywords -/
theorem md_turns (W : Walks prog w A.in1 I fp wr n P St) (bt : Nat → Nat → Bool) (cm : CmpOf prog w A.in1 .Lt P bt) (S : Addr) (nf : S ∉ fp) : ∀ (k j : Nat) (s : Shared) (v0 : Value) (c : Nat), n - (j + 1) = k → j + 1 ≤ n → St (j + 1) s.heap → P (argBest bt j) v0 →
    s.heap.get? S = some { cls := .type "list", dict := none, data := .seq #[v0, v0] c, slots := #[] } →
    (∀ v h' tk, P (argBest bt (n - 1)) v → (∀ b o, b ∉ wr → b ≠ S → s.heap.get? b = some o → h'.get? b = some o) → R (.ok (.ret v)) { s with heap := h', toks := tk }) →
    codeAny (model prog w) A (.builtin "min.loop" ⟨[.ref I, .none, .ref S], kw⟩) R s
  | 0, j, s, v0, c, hk, hj, st, p0, gS, hR => by
    have e : j + 1 = n := by omega
    refine codeAny_builtin PySem.F.entry_min_loop ?_; rw [Around.under_plainId PySem.F.plain_min_loop _]; show wpAny _ A.in1 (seqItems? (.ref S) >>= _) _ _ s
    refine wpAny_bind (wpAny_seqItems gS rfl ?_); show wpAny _ A.in1 (tryCatch (pyNext (.ref I)) _ >>= _) _ _ s
    refine wpAny_bind (wpAny_tryCatch (W.done s _ _ (e ▸ st) fun h' tk kept => ?_))
    have g2 := kept S _ (fun h => nf (W.sub _ h)) gS
    show wpAny _ A.in1 (updateSeq S (fun _ => #[]) >>= _) _ _ _
    exact wpAny_bind (wpAny_updateSeq g2 rfl (wpAny_bind (wpAny_letGo (wpAny_pure (hR v0 _ tk (by rw [← e]; exact p0) fun b o x1 x2 x3 => (Heap.get?_update_other _ _ (Ne.symm x2)).trans (kept b o x1 x3))))))
  | k + 1, j, s, v0, c, hk, hj, st, p0, gS, hR => by
    have lt : j + 1 < n := by omega
    refine codeAny_builtin PySem.F.entry_min_loop ?_; rw [Around.under_plainId PySem.F.plain_min_loop _]; show wpAny _ A.in1 (seqItems? (.ref S) >>= _) _ _ s
    refine wpAny_bind (wpAny_seqItems gS rfl ?_); show wpAny _ A.in1 (tryCatch (pyNext (.ref I)) _ >>= _) _ _ s
    refine wpAny_bind (wpAny_tryCatch (W.item (j + 1) s _ _ lt st fun v h' tk pv st' kept => ?_))
    have g2 := kept S _ (fun h => nf (W.sub _ h)) gS
    show wpAny _ A.in1 (tryCatch (holding [v, v] (richCompare .Lt v v0 >>= _)) _ >>= _) _ _ _
    refine wpAny_bind (wpAny_tryCatch (wpAny_holding (wpAny_bind (cm (j + 1) (argBest bt j) v v0 _ _ _ pv p0 (wpAny_bind (wpAny_holding (wpAny_truthy_bool (wpAny_bind (wpAny_letGo (wpAny_pure ?_))))))))))
    by_cases q : bt (j + 1) (argBest bt j) = true
    · rw [q]
      simp only [if_true]
      refine wpAny_bind (wpAny_updateSeq g2 rfl (wpAny_bind (wpAny_letGo ?_)))
      rw [md_nm]
      exact wpAny_pure ⟨plainId_quiet PySem.F.plain_min_loop _, md_turns W bt cm S nf k (j + 1) _ v _ (by omega) lt (W.frame _ _ _ st' fun b hb o x => (Heap.get?_update_other _ _ (fun y : S = b => nf (by rw [y]; exact hb))).trans x) (by simp only [argBest, q, if_true]; exact pv) (Heap.get?_update_self _ g2 rfl)
        fun u h2 tk2 pu kept2 => hR u h2 tk2 pu fun b o x1 x2 x3 => kept2 b o x1 x2 ((Heap.get?_update_other _ _ (Ne.symm x2)).trans (kept b o x1 x3))⟩
    · rw [Bool.not_eq_true] at q
      rw [q]
      simp only [Bool.false_eq_true, if_false]
      refine wpAny_bind (wpAny_letGo ?_)
      rw [md_nm]
      exact wpAny_pure ⟨plainId_quiet PySem.F.plain_min_loop _, md_turns W bt cm S nf k (j + 1) _ v0 c (by omega) lt st' (by simp only [argBest, q, Bool.false_eq_true, if_false]; exact p0) g2 fun u h2 tk2 pu kept2 => hR u h2 tk2 pu fun b o x1 x2 x3 => kept2 b o x1 x2 (kept b o x1 x3)⟩
theorem md_first (W : Walks prog w A.in1 I fp wr n P St) (bt : Nat → Nat → Bool) (cm : CmpOf prog w A.in1 .Lt P bt) (S : Addr) (nf : S ∉ fp) (hn : 0 < n) {s : Shared} {c : Nat} (st : St 0 s.heap)
    (gS : s.heap.get? S = some { cls := .type "list", dict := none, data := .seq #[] c, slots := #[] })
    (hR : ∀ v h' tk, P (argBest bt (n - 1)) v → (∀ b o, b ∉ wr → b ≠ S → s.heap.get? b = some o → h'.get? b = some o) → R (.ok (.ret v)) { s with heap := h', toks := tk }) :
    codeAny (model prog w) A (.builtin "min.loop" ⟨[.ref I, .none, .ref S], kw⟩) R s := by
  refine codeAny_builtin PySem.F.entry_min_loop ?_; rw [Around.under_plainId PySem.F.plain_min_loop _]; show wpAny _ A.in1 (seqItems? (.ref S) >>= _) _ _ s
  refine wpAny_bind (wpAny_seqItems gS rfl ?_); show wpAny _ A.in1 (tryCatch (pyNext (.ref I)) _ >>= _) _ _ s
  refine wpAny_bind (wpAny_tryCatch (W.item 0 s _ _ hn st fun v h' tk pv st' kept => ?_))
  have g2 := kept S _ (fun h => nf (W.sub _ h)) gS
  show wpAny _ A.in1 (updateSeq S (fun _ => #[v, v]) >>= _) _ _ _
  refine wpAny_bind (wpAny_updateSeq g2 rfl ?_)
  rw [md_nm]
  exact wpAny_pure ⟨plainId_quiet PySem.F.plain_min_loop _, md_turns W bt cm S nf _ 0 _ v _ rfl hn (W.frame _ _ _ st' fun b hb o x => (Heap.get?_update_other _ _ (fun y : S = b => nf (by rw [y]; exact hb))).trans x) pv (Heap.get?_update_self _ g2 rfl)
    fun u h2 tk2 pu kept2 => hR u h2 tk2 pu fun b o x1 x2 x3 => kept2 b o x1 x2 ((Heap.get?_update_other _ _ (Ne.symm x2)).trans (kept b o x1 x3))⟩
/-- nothing to walk: the default -/
theorem md_none (W : Walks prog w A.in1 I fp wr 0 P St) (S : Addr) (nf : S ∉ fp) {s : Shared} {c : Nat} {x : Str} {d : Value} (st : St 0 s.heap)
    (gS : s.heap.get? S = some { cls := .type "list", dict := none, data := .seq #[] c, slots := #[] })
    (hR : ∀ h' tk, (∀ b o, b ∉ wr → s.heap.get? b = some o → h'.get? b = some o) → R (.ok (.ret d)) { s with heap := h', toks := tk }) :
    codeAny (model prog w) A (.builtin "min.loop" ⟨[.ref I, .none, .ref S], [(x, d)]⟩) R s := by
  refine codeAny_builtin PySem.F.entry_min_loop ?_; rw [Around.under_plainId PySem.F.plain_min_loop _]; show wpAny _ A.in1 (seqItems? (.ref S) >>= _) _ _ s
  refine wpAny_bind (wpAny_seqItems gS rfl ?_); show wpAny _ A.in1 (tryCatch (pyNext (.ref I)) _ >>= _) _ _ s
  refine wpAny_bind (wpAny_tryCatch (W.done s _ _ st fun h' tk kept => ?_))
  exact wpAny_bind (wpAny_rule (wpAny_pure (hR h' tk kept)))
end
section
variable {prog : Program} {w : World} {A : Around} {E : Value → Shared → Prop} {s : Shared} {l : Addr} {d : Value}
theorem md_call {xs : Array (Int × Tok)} {Q : Value → Shared → Prop} (hh : A.handled = none) (hl : s.heap.IsList l (intItems xs))
    (h0 : xs.size = 0 → ∀ h' tk, (∀ b o, s.heap.get? b = some o → h'.get? b = some o) → Q d { s with heap := h', toks := tk })
    (h1 : 0 < xs.size → ∀ v h' tk, (intItems xs)[argBest (fun i j => decide (numAt xs i < numAt xs j)) (xs.size - 1)]? = some v → (∀ b o, s.heap.get? b = some o → h'.get? b = some o) → Q v { s with heap := h', toks := tk }) :
    wpAny (model prog w) A (call (.builtin "min") [.ref l] [(Str.ofString "default", d)]) Q E s := by
  refine kmk_tree PySem.F.kind_min PySem.F.plain_min PySem.F.entry_min (md_args _ _) ?_; show wpAny _ A.in1 (Builtin.Builtins.bindParams "min" ["key", "default"] 0 ⟨[], [(Str.ofString "default", d)]⟩ >>= _) _ _ s
  refine wpAny_bind (wpAny_of_eq (show Builtin.Builtins.bindParams "min" ["key", "default"] 0 ⟨[], [(Str.ofString "default", d)]⟩ = pure [none, some d] from rfl) ?_)
  refine wpAny_bind (wpAny_pure (wpAny_bind (iter_intList hl fun s2 e st fr hlI => ?_)))
  subst e
  refine wpAny_bind (wpAny_newObj_type ?_)
  have W := Walks.list (prog := prog) (w := w) (A := A.in1) hh s.heap.objs.size l hlI (intItems xs)
  have nf : (s.heap.push { cls := .type "list_iterator", data := .fields #[.ref l, .int 0 0] }).objs.size ∉ [s.heap.objs.size, l] := fun m => Nat.lt_irrefl _ (fr _ m)
  have sz : (intItems xs).size = xs.size := by simp [intItems]
  rw [md_nm]
  by_cases z : xs.size = 0
  · have W0 := W
    rw [sz, z] at W0
    exact wpAny_pure ⟨plainId_quiet PySem.F.plain_min_loop _, md_none W0 _ nf (W.frame _ _ _ st fun b _ o x => Heap.get?_push_of_some _ x) (Heap.get?_push_size _ rfl) fun h' tk kept => h0 z h' tk (old_kept fun b o x1 x2 => kept b o x1 (Heap.get?_push_of_some _ x2))⟩
  · have z2 : 0 < xs.size := by omega
    refine wpAny_pure ⟨plainId_quiet PySem.F.plain_min_loop _, md_first W (fun i j => decide (numAt xs i < numAt xs j)) (CmpOf.ints_lt (numAt xs) fun _ _ => intItems_at) _ nf (by rw [sz]; exact z2) (W.frame _ _ _ st fun b _ o x => Heap.get?_push_of_some _ x) (Heap.get?_push_size _ rfl) fun v h' tk pv kept => ?_⟩
    rw [sz] at pv
    exact h1 z2 v h' tk pv (old_kept fun b o x1 x2 => kept b o x1 (Nat.ne_of_lt (Heap.lt_size x2)) (Heap.get?_push_of_some _ x2))
end
def rMinD (K : PySem.W.Frag) : List V → List V → Hp → VK → Prop := fun vs zs H Q => ∃ (a : Addr) (ns : List Int) (d : V), vs = [V.ref a] ∧ zs = [d] ∧ SqL K H a (ns.map V.int) ∧ (ns = [] → Q d H) ∧ (0 < ns.length → ∀ m, m ∈ ns → (∀ y, y ∈ ns → m ≤ y) → Q (.int m) H)
theorem cr_minD {X : Cx} (hc : X.calm = true) : CallRK X (.builtin "min") [Str.ofString "default"] (rMinD X.K) := by
  intro pins s σ H vs zs us ws Q I r rz h
  obtain ⟨a, ns, d, rfl, rfl, hs, q0, q1⟩ := h
  obtain ⟨its, rv, hl, _⟩ := I.list hs
  rw [Vals.ref1 r]
  obtain ⟨w1, rfl, e1⟩ := vals1 rz
  have hi := rv.ints
  have hl2 := hl.isList
  obtain ⟨xs, e⟩ := hi.allInts.items
  have hn : numsOf (intItems xs).toList = ns := by rw [← e]; exact hi.numsOf
  rw [nums_intItems] at hn
  subst hn
  rw [e] at hl2
  refine md_call (I.ok.hd hc) hl2 (fun z h' tk kept => ⟨d, H, I.kept kept, e1, q0 ?_⟩) fun z v h' tk hv kept => ?_
  · apply List.eq_nil_of_length_eq_zero
    rw [List.length_map, Array.length_toList]
    exact z
  · obtain ⟨t, rfl⟩ := intItems_at hv
    obtain ⟨b1, b2⟩ := argBest_lt (numAt xs) (xs.size - 1)
    refine ⟨.int _, H, I.kept kept, ⟨_, rfl⟩, q1 (by rw [List.length_map, Array.length_toList]; exact z) _ ?_ fun y hy => ?_⟩
    · rw [numAt_eq]; exact PySem.getD_mem (by rw [List.length_map, Array.length_toList]; omega)
    · obtain ⟨j, hj, rfl⟩ := mem_getD hy
      rw [List.length_map, Array.length_toList] at hj
      rw [← numAt_eq]
      exact b2 j (by omega)
/-- the least of i and the rest -/
def lst1 (i : Int) : List Int → Int
  | [] => i
  | j :: r => lst1 (if j < i then j else i) r
theorem lst1_ok : ∀ (r : List Int) (i : Int), lst1 i r ∈ i :: r ∧ ∀ y ∈ i :: r, lst1 i r ≤ y
  | [], i => ⟨List.mem_cons_self, fun y hy => by rw [List.mem_singleton.mp hy]; exact Int.le_refl _⟩
  | j :: r, i => by
    obtain ⟨a, b⟩ := lst1_ok r (if j < i then j else i)
    have b0 := b _ List.mem_cons_self
    unfold lst1
    refine ⟨?_, fun y hy => ?_⟩
    · rcases List.mem_cons.mp a with e | e
      · rw [e]
        by_cases q : j < i
        · rw [if_pos q]
          exact List.mem_cons_of_mem _ List.mem_cons_self
        · rw [if_neg q]
          exact List.mem_cons_self
      · exact List.mem_cons_of_mem _ (List.mem_cons_of_mem _ e)
    · have hm : (if j < i then j else i) ≤ i ∧ (if j < i then j else i) ≤ j := by
        by_cases q : j < i
        · rw [if_pos q]
          omega
        · rw [if_neg q]
          omega
      rcases List.mem_cons.mp hy with e | hy
      · subst e
        exact Int.le_trans b0 hm.1
      · rcases List.mem_cons.mp hy with e | hy
        · subst e
          exact Int.le_trans b0 hm.2
        · exact b y (List.mem_cons_of_mem _ hy)
def opMinD (x y : D) : M D := fun cs => match (seqOf cs x).bind intsOf with
  | some [] => .ok y cs
  | some (i :: r) => .ok (.int (lst1 i r)) cs
  | none => .no
def xMinD (a k : En → M D) : En → M D := fun env => M.bnd (a env) fun x => M.bnd (k env) fun y => opMinD x y
section
variable {X : Cx} {ct : Ct} {W : WX} {a b c d e : Expr} {ma mb mc md mk : En → M D} {pos p kpos : Pos} {x : Str}
theorem tMinD_of {K : PySem.W.Frag} {σ : L2.St} {H : Hp} {Q : VK} (h : tD K ct W (xMinD ma mk) σ H Q) : tCKw (rMinD K) (tCons (tD K ct W ma) tNil) (tCons (tD K ct W mk) tNil) σ H Q := by
  obtain ⟨F, as, env, cs, ok, sl, h⟩ := h
  refine ⟨F, as, env, cs, ok, sl, out_imp (out_bnd h) fun d cs1 F1 H1 as1 g ok1 h1 v hv => ?_⟩
  refine ⟨F1, as1, env, cs1, ok1, sl.gro g, out_imp (out_bnd h1) fun e cs2 F2 H2 as2 g2 ok2 h2 u hu => ?_⟩
  unfold opMinD at h2
  split at h2
  · rename_i q
    obtain ⟨xs, e1, e2⟩ := Option.bind_eq_some_iff.mp q
    obtain ⟨z, ys, rfl, h3, l⟩ := seq_at ok2 (hv.gro g2) e1
    rw [intsOf_eq l e2] at h3
    exact ⟨z, [], u, rfl, rfl, h3, fun _ => end_ok ok2 hu h2, fun y => absurd y (Nat.lt_irrefl 0)⟩
  · rename_i i r q
    obtain ⟨xs, e1, e2⟩ := Option.bind_eq_some_iff.mp q
    obtain ⟨z, ys, rfl, h3, l⟩ := seq_at ok2 (hv.gro g2) e1
    rw [intsOf_eq l e2] at h3
    refine ⟨z, i :: r, u, rfl, rfl, h3, (fun y => nomatch y), fun _ m hm hle => ?_⟩
    obtain ⟨l1, l2⟩ := lst1_ok r i
    rw [show m = lst1 i r from Int.le_antisymm (hle _ l1) (l2 _ hm)]
    exact end_ok ok2 (.int _) h2
  · exact False.elim h2
theorem ge_minD (hc : X.calm = true) (hg : Gl X x) (hm : X.mg x = none) (hv : bootBuiltins x = some (.builtin "min")) (ha : PE X e (tD X.K ct W ma)) (hk : PE X d (tD X.K ct W mk)) (hn : x ≠ "__name__" := by decide) (hdb : (x == ("__debug__" : Str)) = false := by decide)
    (hs : starEach [e] X.env = (false, eval e X.env) :: starEach [] X.env := by rfl) (he : backTo pos (starEach [e] X.env) = (false, eval e X.env) :: backTo pos (starEach [] X.env) := by rfl) (hpl : (backTo pos (starEach [e] X.env)).any (·.1) = false := by rfl) : PE X (.Call (.Name x p) [e] [⟨some (Str.ofString "default"), d, kpos⟩] pos) (tD X.K ct W (xMinD ma mk)) :=
  PE.imp (pe_callBK (cr_minD hc) hg hm hv (pa_cons ha pa_nil hs) (pk_cons hk pk_nil) hn hdb he hpl) fun _ _ _ => tMinD_of
/-! ### a op b op c op d, as a test -/
def tChain3 (r1 r2 r3 : R2) (ta tb tc td : TE) : TE := fun σ H Q => ta σ H fun x H1 => tb σ H1 fun y H2 => r1 x y H2 fun z H3 => ∃ k, z = .bl k ∧
  (if k = true then tc σ H3 fun u H4 => r2 y u H4 fun z2 H5 => ∃ k2, z2 = .bl k2 ∧ (if k2 = true then td σ H5 fun v H6 => r3 u v H6 Q else Q (.bl false) H5) else Q (.bl false) H3)
theorem pt_chain3 {o1 o2 o3 : CmpOp} {r1 r2 r3 : R2} {ta tb tc td : TE} (h1 : OpR X (compareOp o1) r1) (h2 : OpR X (compareOp o2) r2) (h3 : OpR X (compareOp o3) r3) (ha : PE X a ta) (hb : PE X b tb) (hc : PE X c tc) (hd : PE X d td)
    (hm : lastMarks [o1, o2, o3] [b, c, d] = false := by with_unfolding_all rfl) : PT X (.Compare a [o1, o2, o3] [b, c, d] pos) (tTest (tChain3 r1 r2 r3 ta tb tc td)) := by
  refine ⟨fun pins s σ H Q I h => isTrue_chain (thn (ha.run pins s σ H _ I h) fun va s1 ⟨x, H1, I1, e1, q1⟩ => test_link (thn (hb.run pins s1 σ H1 _ I1 q1) fun vb s2 ⟨y, H2, I2, e2, q2⟩ =>
    thn (h1 pins s2 σ H2 x y va vb _ I2 e1 e2 q2) fun vk s3 ⟨z, H3, I3, e3, k, ek, q3⟩ => ?_)) hm⟩
  subst ek
  cases e3
  refine wpAny_truthy_bool ?_
  cases k with
  | false =>
    obtain ⟨k', e', q'⟩ := q3
    cases e'
    exact ite_ff ⟨H3, I3, q'⟩
  | true =>
    refine ite_tt (test_link (thn (hc.run pins s3 σ H3 _ I3 q3) fun vc s4 ⟨u, H4, I4, e4, q4⟩ => thn (h2 pins s4 σ H4 y u vb vc _ I4 e2 e4 q4) fun vk2 s5 ⟨z2, H5, I5, e5, k2, ek2, q5⟩ => ?_))
    subst ek2
    cases e5
    refine wpAny_truthy_bool ?_
    cases k2 with
    | false =>
      obtain ⟨k', e', q'⟩ := q5
      cases e'
      exact ite_ff ⟨H5, I5, q'⟩
    | true =>
      refine ite_tt (test_last (thn (hd.run pins s5 σ H5 _ I5 q5) fun vd s6 ⟨v, H6, I6, e6, q6⟩ => thn (h3 pins s6 σ H6 u v vc vd _ I6 e4 e6 q6) fun vk3 s7 ⟨z3, H7, I7, e7, k3, ek3, q7⟩ => ?_))
      subst ek3
      cases e7
      exact wpAny_truthy_bool ⟨H7, I7, q7⟩
def xChain3 (f g h : D → D → M D) (a b c d : En → M D) : En → M D := fun env => M.bnd (a env) fun x => M.bnd (b env) fun y => M.bnd (f x y) fun z => match z with
  | .bl true => M.bnd (c env) fun u => M.bnd (g y u) fun z2 => match z2 with
    | .bl true => M.bnd (d env) fun v => h u v
    | .bl false => M.ret (.bl false)
    | _ => M.no
  | .bl false => M.ret (.bl false)
  | _ => M.no
theorem tChain3_of {K : PySem.W.Frag} {f g h : D → D → M D} {r1 r2 r3 : R2} (o1 : OpD K ct r1 f) (o2 : OpD K ct r2 g) (o3 : OpD K ct r3 h) {σ : L2.St} {H : Hp} {Q : VK} (hx : tD K ct W (xChain3 f g h ma mb mc md) σ H Q) : tChain3 r1 r2 r3 (tD K ct W ma) (tD K ct W mb) (tD K ct W mc) (tD K ct W md) σ H Q := by
  obtain ⟨F, as, env, cs, ok, sl, hx⟩ := hx
  refine ⟨F, as, env, cs, ok, sl, out_imp (out_bnd hx) fun x cs1 F1 H1 as1 g1 ok1 h1 vx hvx => ?_⟩
  refine ⟨F1, as1, env, cs1, ok1, sl.gro g1, out_imp (out_bnd h1) fun y cs2 F2 H2 as2 g2 ok2 h2 vy hvy => ?_⟩
  refine o1 W σ.length F2 H2 as2 cs2 vx vy x y _ ok2 (hvx.gro g2) hvy (out_imp (out_bnd h2) fun z cs3 F3 H3 as3 g3 ok3 h3 vz hvz => ?_)
  split at h3
  · cases hvz
    refine ⟨true, rfl, ?_⟩
    rw [if_pos rfl]
    refine ⟨F3, as3, env, cs3, ok3, ((sl.gro g1).gro g2).gro g3, out_imp (out_bnd h3) fun u cs4 F4 H4 as4 g4 ok4 h4 vu hvu => ?_⟩
    refine o2 W σ.length F4 H4 as4 cs4 vy vu y u _ ok4 ((hvy.gro g3).gro g4) hvu (out_imp (out_bnd h4) fun z2 cs5 F5 H5 as5 g5 ok5 h5 vz2 hvz2 => ?_)
    split at h5
    · cases hvz2
      refine ⟨true, rfl, ?_⟩
      rw [if_pos rfl]
      refine ⟨F5, as5, env, cs5, ok5, ((((sl.gro g1).gro g2).gro g3).gro g4).gro g5, out_imp (out_bnd h5) fun v cs6 F6 H6 as6 g6 ok6 h6 vv hvv => ?_⟩
      exact o3 W _ F6 H6 as6 cs6 vu vv u v Q ok6 ((hvu.gro g5).gro g6) hvv h6
    · cases hvz2
      refine ⟨false, rfl, ?_⟩
      rw [if_neg Bool.false_ne_true]
      exact end_ok ok5 (.bl false) h5
    · exact False.elim h5
  · cases hvz
    refine ⟨false, rfl, ?_⟩
    rw [if_neg Bool.false_ne_true]
    exact end_ok ok3 (.bl false) h3
  · exact False.elim h3
theorem gt_chain3 {p1 p2 p3 : CmpOp} {f g h : D → D → M D} {r1 r2 r3 : R2} (h1 : OpR X (compareOp p1) r1) (o1 : OpD X.K ct r1 f) (h2 : OpR X (compareOp p2) r2) (o2 : OpD X.K ct r2 g) (h3 : OpR X (compareOp p3) r3) (o3 : OpD X.K ct r3 h) (ha : PE X a (tD X.K ct W ma)) (hb : PE X b (tD X.K ct W mb)) (hc : PE X c (tD X.K ct W mc)) (hd : PE X d (tD X.K ct W md))
    (hm : lastMarks [p1, p2, p3] [b, c, d] = false := by with_unfolding_all rfl) : PT X (.Compare a [p1, p2, p3] [b, c, d] pos) (tT X.K ct W (bVal (xChain3 f g h ma mb mc md))) := PT.imp (pt_chain3 h1 h2 h3 ha hb hc hd hm) fun _ _ _ q => tChain3_of o1 o2 o3 (bv_of q)
end
end G
namespace LK
open L2 G PySem PySem.Spec PyProof.Rows
def top (i : Nat) : Stmt := PySem.Challenge.pw_beginnet_k06_fewest_joints.main.body.getD i (.Pass ⟨0, 0, 0, 0⟩)
def inCls (i j : Nat) : Stmt := match top i with
  | .ClassDef _ _ _ body .. => body.getD j (.Pass ⟨0, 0, 0, 0⟩)
  | s => s
structure X4c (K : PySem.W.Frag) (mg : Str → Option Value) (x : Str) (C : Addr) : Prop where
  exc : PySem.W.excIn K C He.veBase "ValueError.__new__" = true
  mg : mg x = some (.ref C)
  keep : PySem.W.keepIn K (.ref C) = true
  sub : PySem.W.subIn K (.ref C) (.type "BaseException") = some true
  ty : PySem.W.typeIn K (.ref C) = some (.type "type")
theorem X4c.raises {X : Cx} {x : Str} {C : Addr} (h : X4c X.K X.mg x C) : Raises X (.ref C) := raises_own h.sub h.ty
structure Bt (K : PySem.W.Frag) (mg : Str → Option Value) (ct : Ct) : Prop where
  len : mg "len" = none
  isinstance : mg "isinstance" = none
  range : mg "range" = none
  int : mg "int" = none
  bool : mg "bool" = none
  str : mg "str" = none
  tuple : mg "tuple" = none
  list : mg "list" = none
  max : mg "max" = none
  min : mg "min" = none
  sum : mg "sum" = none
  all : mg "all" = none
  sorted : mg "sorted" = none
  reversed : mg "reversed" = none
  zip : mg "zip" = none
  abs : mg "abs" = none
  x_lines : X4c K mg "BadLines" ct.lines
  x_thing : X4c K mg "BadThing" ct.thing
  x_kind : X4c K mg "BadKind" ct.kind
  x_nonet : X4c K mg "NoNet" ct.nonet
  c_MOST_LINES : ∃ t, mg "MOST_LINES" = some (.int 64 t)
  c_MOST_LAYERS : ∃ t, mg "MOST_LAYERS" = some (.int 80 t)
section
variable {P : Program} {w : World} {K : PySem.W.Frag} {mg : Str → Option Value} {base : Heap} {ct : Ct} {ne : Addr}
abbrev s_is_whole : Stmt := top 8
theorem sc_is_whole : FnScope ["thing"] ["thing"] (defScope s_is_whole) := ⟨rfl, rfl, rfl, by decide +kernel, rfl, by decide +kernel, by decide +kernel⟩
structure D_is_whole (P : Program) (w : World) (K : PySem.W.Frag) (mg : Str → Option Value) (base : Heap) (ct : Ct) : Prop where
  u_ : True
def c_is_whole : En → M Fl := sRet (xAnd (xUn (opIs .int) (xVar 0)) (xNot (xUn (opIs .bool) (xVar 0))))
def f_is_whole : List D → Rp := runP c_is_whole 1
theorem F_is_whole (a0 : D) : f_is_whole [a0] = kP (c_is_whole [some a0] []) := rfl
theorem d_is_whole (F : ∃ fa fd, mg "is_whole" = some (.ref fa) ∧ FunG K "is_whole" s_is_whole fa fd) (B : Bt K mg ct) (T : Xt K mg ct ne) (D : D_is_whole P w K mg base ct) : Dp' P w K mg base 2 "is_whole" ["thing"] (spP K ct 1 f_is_whole) := by
  obtain ⟨fa, fd, hm, F⟩ := F
  have nd := sc_is_whole.nd
  refine ⟨fa, fd, hm, F.kp, F.bindsN (fun _ _ _ _ _ _ us hl => match us, hl with | [_], _ => rfl), def_P (k := 1) F sc_is_whole rfl fun cdv A outer s H E hr => ?_⟩
  have tk := takes_of (X := cxG P w K mg base ["thing"] "is_whole" s_is_whole fa cdv A outer s H E) rfl rfl rfl rfl
  exact (gs_one (gs_ret (ge_and (ge_isi (T := .int) rfl B.isinstance rfl B.int (by decide +kernel) (ge_var (pv 0))) (ge_one (ge_not (ge_isi (T := .bool) rfl B.isinstance rfl B.bool (by decide +kernel) (ge_var (pv 0))))))))
abbrev s_is_among : Stmt := top 9
theorem sc_is_among : FnScope ["thing", "least", "most"] ["thing", "least", "most"] (defScope s_is_among) := ⟨rfl, rfl, rfl, by decide +kernel, rfl, by decide +kernel, by decide +kernel⟩
structure D_is_among (P : Program) (w : World) (K : PySem.W.Frag) (mg : Str → Option Value) (base : Heap) (ct : Ct) : Prop where
  is_whole : Dp' P w K mg base 2 "is_whole" ["thing"] (spP K ct 1 f_is_whole)
  u_ : True
def c_is_among : En → M Fl := sRet (xAnd (xCallP f_is_whole (aCons (xVar 0) (aNil))) (xChain opLe opLe (xVar 1) (xVar 0) (xVar 2)))
def f_is_among : List D → Rp := runP c_is_among 3
theorem F_is_among (a0 a1 a2 : D) : f_is_among [a0, a1, a2] = kP (c_is_among [some a0, some a1, some a2] []) := rfl
theorem d_is_among (F : ∃ fa fd, mg "is_among" = some (.ref fa) ∧ FunG K "is_among" s_is_among fa fd) (B : Bt K mg ct) (T : Xt K mg ct ne) (D : D_is_among P w K mg base ct) : Dp' P w K mg base 3 "is_among" ["thing", "least", "most"] (spP K ct 3 f_is_among) := by
  obtain ⟨fa, fd, hm, F⟩ := F
  have nd := sc_is_among.nd
  refine ⟨fa, fd, hm, F.kp, F.bindsN (fun _ _ _ _ _ _ us hl => match us, hl with | [_, _, _], _ => rfl), def_P (k := 2) F sc_is_among rfl fun cdv A outer s H E hr => ?_⟩
  have tk := takes_of (X := cxG P w K mg base ["thing", "least", "most"] "is_among" s_is_among fa cdv A outer s H E) rfl rfl rfl rfl
  exact (gs_one (gs_ret (ge_and (gc_P D.is_whole hr (by decide) tk rfl (an_cons an_nil) (ga_cons (ge_var (pv 0)) ga_nil)) (ge_one (ge_chain op_le od_le op_le od_le (ge_var (pv 1)) (ge_var (pv 0)) (ge_var (pv 2)))))))
abbrev s_need_lines : Stmt := top 13
theorem sc_need_lines : FnScope ["lines"] ["lines"] (defScope s_need_lines) := ⟨rfl, rfl, rfl, by decide +kernel, rfl, by decide +kernel, by decide +kernel⟩
structure D_need_lines (P : Program) (w : World) (K : PySem.W.Frag) (mg : Str → Option Value) (base : Heap) (ct : Ct) : Prop where
  is_among : Dp' P w K mg base 3 "is_among" ["thing", "least", "most"] (spP K ct 3 f_is_among)
  u_ : True
def c_need_lines : En → M Fl := sIf (bNot (bVal (xCallP f_is_among (aCons (xVar 0) (aCons (xC (.int 1)) (aCons (xC (.int 64)) (aNil))))))) (sRaise .lines) (sSkip)
def f_need_lines : List D → Rp := runP c_need_lines 1
theorem F_need_lines (a0 : D) : f_need_lines [a0] = kP (c_need_lines [some a0] []) := rfl
theorem d_need_lines (F : ∃ fa fd, mg "need_lines" = some (.ref fa) ∧ FunG K "need_lines" s_need_lines fa fd) (B : Bt K mg ct) (T : Xt K mg ct ne) (D : D_need_lines P w K mg base ct) : Dp' P w K mg base 4 "need_lines" ["lines"] (spP K ct 1 f_need_lines) := by
  obtain ⟨fa, fd, hm, F⟩ := F
  have nd := sc_need_lines.nd
  refine ⟨fa, fd, hm, F.kp, F.bindsN (fun _ _ _ _ _ _ us hl => match us, hl with | [_], _ => rfl), def_P (k := 3) F sc_need_lines rfl fun cdv A outer s H E hr => ?_⟩
  have tk := takes_of (X := cxG P w K mg base ["lines"] "need_lines" s_need_lines fa cdv A outer s H E) rfl rfl rfl rfl
  exact (gs_one (gs_if (gt_not (gt_val (gc_P D.is_among hr (by decide) tk rfl (an_cons (an_cons (an_cons an_nil))) (ga_cons (ge_var (pv 0)) (ga_cons ge_int (ga_cons (ge_gint B.c_MOST_LINES rfl) ga_nil)))))) (gs_one (gs_raise4 .lines rfl tk B.x_lines.exc B.x_lines.mg B.x_lines.keep (B.x_lines.raises) rfl)) gs_nil))
abbrev s_moved_up : Stmt := top 15
theorem sc_moved_up : FnScope ["net", "by", "layer", "low", "high"] ["net", "by"] (defScope s_moved_up) := ⟨rfl, rfl, rfl, by decide +kernel, rfl, by decide +kernel, by decide +kernel⟩
structure D_moved_up (P : Program) (w : World) (K : PySem.W.Frag) (mg : Str → Option Value) (base : Heap) (ct : Ct) : Prop where
  u_ : True
def e_moved_up_0 : En → M D := xTup (aCons (xBin (opAdd false) (xVar 3) (xVar 1)) (aCons (xBin (opAdd false) (xVar 4) (xVar 1)) (aNil)))
def m_moved_up_0 : En → M D := xLcN false (itSeq (xVar 2)) [3, 4] (.tp [3, 4]) (bYes) e_moved_up_0
def e_moved_up_1 : En → M D := m_moved_up_0
def m_moved_up_1 : En → M D := xLcN false (itSeq (xVar 0)) [2] (.nm 2) (bYes) e_moved_up_1
def c_moved_up : En → M Fl := sRet (m_moved_up_1)
def f_moved_up : List D → Rp := runP c_moved_up 5
theorem F_moved_up (a0 a1 : D) : f_moved_up [a0, a1] = kP (c_moved_up [some a0, some a1, none, none, none] []) := rfl
theorem d_moved_up (F : ∃ fa fd, mg "moved_up" = some (.ref fa) ∧ FunG K "moved_up" s_moved_up fa fd) (B : Bt K mg ct) (T : Xt K mg ct ne) (D : D_moved_up P w K mg base ct) : Dp' P w K mg base 2 "moved_up" ["net", "by"] (spP K ct 2 f_moved_up) := by
  obtain ⟨fa, fd, hm, F⟩ := F
  have nd := sc_moved_up.nd
  refine ⟨fa, fd, hm, F.kp, F.bindsN (fun _ _ _ _ _ _ us hl => match us, hl with | [_, _], _ => rfl), def_P (k := 1) F sc_moved_up rfl fun cdv A outer s H E hr => ?_⟩
  have tk := takes_of (X := cxG P w K mg base ["net", "by", "layer", "low", "high"] "moved_up" s_moved_up fa cdv A outer s H E) rfl rfl rfl rfl
  exact (gs_one (gs_ret (ge_lc false rfl nd (own := [("layer", 2)]) (t := .nm 2) (gi_seq (ge_var (pv 0))) (blkOk_by (own := [("layer", 2)]) (by kernel_rfl)) (by decide) (fun _ _ _ _ _ => (pg_name (i := 2) nd rfl (by first | exact .inl rfl | exact .inr rfl))) (fun _ _ _ _ _ => gts_nil) (fun _ _ _ _ _ => (ge_lc false rfl nd (own := [("low", 3), ("high", 4)]) (t := .tp [3, 4]) (gi_seq (ge_var (pv 2))) (blkOk_by (own := [("low", 3), ("high", 4)]) (by kernel_rfl)) (by decide) (fun _ _ _ _ _ => (pg_tup rfl (pgs_cons (pg_name (i := 3) nd rfl (by first | exact .inl rfl | exact .inr rfl)) (pgs_cons (pg_name (i := 4) nd rfl (by first | exact .inl rfl | exact .inr rfl)) pgs_nil)))) (fun _ _ _ _ _ => gts_nil) (fun _ _ _ _ _ => (ge_tup (ga_cons (ge_op op_addA (od_add false) (ge_var (pv 3)) (ge_var (pv 1))) (ga_cons (ge_op op_addA (od_add false) (ge_var (pv 4)) (ge_var (pv 1))) ga_nil)))))))))
abbrev s_side_by_side : Stmt := top 16
theorem sc_side_by_side : FnScope ["one", "other", "found", "at", "layer", "net"] ["one", "other"] (defScope s_side_by_side) := ⟨rfl, rfl, rfl, by decide +kernel, rfl, by decide +kernel, by decide +kernel⟩
structure D_side_by_side (P : Program) (w : World) (K : PySem.W.Frag) (mg : Str → Option Value) (base : Heap) (ct : Ct) : Prop where
  u_ : True
def b_side_by_side_0 : En → M Fl := sIf (bVal (xBin opLt (xVar 3) (xCall opLen (aCons (xVar 5) (aNil))))) (sAsg (xBin (opAdd false) (xVar 4) (xBin opIx (xVar 5) (xVar 3))) (.nm 4)) (sSkip)
def l_side_by_side_0 : En → M Fl := sFor (itTup (xTup (aCons (xVar 0) (aCons (xVar 1) (aNil))))) (.nm 5) b_side_by_side_0
def b_side_by_side_1 : En → M Fl := sSeq (sAsg (xLst false (aNil)) (.nm 4)) (sSeq (l_side_by_side_0) (sDrop (xApp (xVar 2) (xVar 4))))
def l_side_by_side_1 : En → M Fl := sFor (itR1 (xCall opMax2 (aCons (xCall opLen (aCons (xVar 0) (aNil))) (aCons (xCall opLen (aCons (xVar 1) (aNil))) (aNil))))) (.nm 3) b_side_by_side_1
def c_side_by_side : En → M Fl := sSeq (sAsg (xLst true (aNil)) (.nm 2)) (sSeq (l_side_by_side_1) (sRet (xVar 2)))
def f_side_by_side : List D → Rp := runP c_side_by_side 6
theorem F_side_by_side (a0 a1 : D) : f_side_by_side [a0, a1] = kP (c_side_by_side [some a0, some a1, none, none, none, none] []) := rfl
theorem d_side_by_side (F : ∃ fa fd, mg "side_by_side" = some (.ref fa) ∧ FunG K "side_by_side" s_side_by_side fa fd) (B : Bt K mg ct) (T : Xt K mg ct ne) (D : D_side_by_side P w K mg base ct) : Dp' P w K mg base 2 "side_by_side" ["one", "other"] (spP K ct 2 f_side_by_side) := by
  obtain ⟨fa, fd, hm, F⟩ := F
  have nd := sc_side_by_side.nd
  refine ⟨fa, fd, hm, F.kp, F.bindsN (fun _ _ _ _ _ _ us hl => match us, hl with | [_, _], _ => rfl), def_P (k := 1) F sc_side_by_side rfl fun cdv A outer s H E hr => ?_⟩
  have tk := takes_of (X := cxG P w K mg base ["one", "other", "found", "at", "layer", "net"] "side_by_side" s_side_by_side fa cdv A outer s H E) rfl rfl rfl rfl
  have hp : PassesOwn (model P w) _ _ (cxG P w K mg base ["one", "other", "found", "at", "layer", "net"] "side_by_side" s_side_by_side fa cdv A outer s H E).xe := passes_of rfl
  exact (gs_cons (gs_asg (t := .nm 2) (ps_set nd rfl (by first | exact .inl rfl | exact .inr rfl) (ge_lst true ga_nil))) (gs_cons (gs_for (it := itR1 (xCall opMax2 (aCons (xCall opLen (aCons (xVar 0) (aNil))) (aCons (xCall opLen (aCons (xVar 1) (aNil))) (aNil))))) (b := b_side_by_side_1) (t := .nm 3) hp rfl (gi_r1 rfl B.range (ge_callB (call_max2 rfl) cd_max2 rfl B.max (by decide +kernel) (ga_cons (ge_callB call_len cd_len rfl B.len PySem.boot_len (ga_cons (ge_var (pv 0)) ga_nil)) (ga_cons (ge_callB call_len cd_len rfl B.len PySem.boot_len (ga_cons (ge_var (pv 1)) ga_nil)) ga_nil)))) (pg_name (i := 3) nd rfl (by first | exact .inl rfl | exact .inr rfl)) (gs_cons (gs_asg (t := .nm 4) (ps_set nd rfl (by first | exact .inl rfl | exact .inr rfl) (ge_lst false ga_nil))) (gs_cons (gs_for (it := itTup (xTup (aCons (xVar 0) (aCons (xVar 1) (aNil))))) (b := b_side_by_side_0) (t := .nm 5) hp rfl (gi_tup (ge_tup (ga_cons (ge_var (pv 0)) (ga_cons (ge_var (pv 1)) ga_nil)))) (pg_name (i := 5) nd rfl (by first | exact .inl rfl | exact .inr rfl)) (gs_one (gs_if (gt_cmp op_lt od_lt (ge_var (pv 3)) (ge_callB call_len cd_len rfl B.len PySem.boot_len (ga_cons (ge_var (pv 5)) ga_nil)) (nomark _)) (gs_one (gs_asg (t := .nm 4) (ps_set nd rfl (by first | exact .inl rfl | exact .inr rfl) (ge_op op_addA (od_add false) (ge_var (pv 4)) (ge_ix ix_seq od_ix (ge_var (pv 5)) (ge_var (pv 3)) (fun _ _ => rfl)))))) gs_nil))) (gs_one (gs_drop (ge_app (ge_var (pv 2)) (ge_var (pv 4)))))))) (gs_one (gs_ret (ge_var (pv 2))))))
abbrev s_put_behind : Stmt := top 17
theorem sc_put_behind : FnScope ["one", "first", "other", "many", "last", "line"] ["one", "first", "other", "many"] (defScope s_put_behind) := ⟨rfl, rfl, rfl, by decide +kernel, rfl, by decide +kernel, by decide +kernel⟩
structure D_put_behind (P : Program) (w : World) (K : PySem.W.Frag) (mg : Str → Option Value) (base : Heap) (ct : Ct) : Prop where
  moved_up : Dp' P w K mg base 2 "moved_up" ["net", "by"] (spP K ct 2 f_moved_up)
  side_by_side : Dp' P w K mg base 2 "side_by_side" ["one", "other"] (spP K ct 2 f_side_by_side)
  u_ : True
def e_put_behind_0 : En → M D := xTup (aCons (xBin opSub (xVar 1) (xC (.int 1))) (aCons (xBin (opAdd false) (xVar 1) (xVar 5)) (aNil)))
def m_put_behind_0 : En → M D := xLcN false (itR1 (xVar 3)) [5] (.nm 5) (bYes) e_put_behind_0
def c_put_behind : En → M Fl := sSeq (sAsg (m_put_behind_0) (.nm 4)) (sRet (xBin (opAdd false) (xCallP f_side_by_side (aCons (xVar 0) (aCons (xCallP f_moved_up (aCons (xVar 2) (aCons (xVar 1) (aNil)))) (aNil)))) (xLst false (aCons (xVar 4) (aNil)))))
def f_put_behind : List D → Rp := runP c_put_behind 6
theorem F_put_behind (a0 a1 a2 a3 : D) : f_put_behind [a0, a1, a2, a3] = kP (c_put_behind [some a0, some a1, some a2, some a3, none, none] []) := rfl
theorem d_put_behind (F : ∃ fa fd, mg "put_behind" = some (.ref fa) ∧ FunG K "put_behind" s_put_behind fa fd) (B : Bt K mg ct) (T : Xt K mg ct ne) (D : D_put_behind P w K mg base ct) : Dp' P w K mg base 3 "put_behind" ["one", "first", "other", "many"] (spP K ct 4 f_put_behind) := by
  obtain ⟨fa, fd, hm, F⟩ := F
  have nd := sc_put_behind.nd
  refine ⟨fa, fd, hm, F.kp, F.bindsN (fun _ _ _ _ _ _ us hl => match us, hl with | [_, _, _, _], _ => rfl), def_P (k := 2) F sc_put_behind rfl fun cdv A outer s H E hr => ?_⟩
  have tk := takes_of (X := cxG P w K mg base ["one", "first", "other", "many", "last", "line"] "put_behind" s_put_behind fa cdv A outer s H E) rfl rfl rfl rfl
  exact (gs_cons (gs_lc (own := [("line", 5)]) (t := .nm 5) (i := 4) (c := false) (by decide) (ps_setLc rfl nd rfl rfl (sw_true rfl rfl rfl (by decide +kernel)) (own := [("line", 5)]) (gi_r1 rfl B.range (ge_var (pv 3))) (blkOk_by (own := [("line", 5)]) (by kernel_rfl)) (fun _ _ _ _ _ => (pg_name (i := 5) nd rfl (by first | exact .inl rfl | exact .inr rfl))) (fun _ _ _ _ _ => gts_nil) (fun _ _ _ _ _ => (ge_tup (ga_cons (ge_op op_sub od_sub (ge_var (pv 1)) ge_int) (ga_cons (ge_op op_addA (od_add false) (ge_var (pv 1)) (ge_var (pv 5))) ga_nil)))))) (gs_one (gs_ret (ge_op op_addA (od_add false) (gc_P D.side_by_side hr (by decide) tk rfl (an_cons (an_cons an_nil)) (ga_cons (ge_var (pv 0)) (ga_cons (gc_P D.moved_up hr (by decide) tk rfl (an_cons (an_cons an_nil)) (ga_cons (ge_var (pv 2)) (ga_cons (ge_var (pv 1)) ga_nil))) ga_nil))) (ge_lst false (ga_cons (ge_var (pv 4)) ga_nil))))))
abbrev s_parted : Stmt := top 19
theorem sc_parted : FnScope ["lines", "ahead", "found", "first", "many"] ["lines", "ahead"] (defScope s_parted) := ⟨rfl, rfl, rfl, by decide +kernel, rfl, by decide +kernel, by decide +kernel⟩
structure D_parted (P : Program) (w : World) (K : PySem.W.Frag) (mg : Str → Option Value) (base : Heap) (ct : Ct) : Prop where
  u_ : True
def c_parted : En → M Fl := sSeq (sAsg (xC .non) (.nm 2)) (sSeq (sFor (itR2 (xC (.int 1)) (xVar 0)) (.nm 3) (sIf (bAnd (bVal (xBin (opIsN false) (xBin opIx (xVar 1) (xVar 3)) (xC .non))) (bVal (xBin (opIsN false) (xBin opIx (xVar 1) (xBin opSub (xVar 0) (xVar 3))) (xC .non)))) (sSeq (sAsg (xBin opSub (xBin (opAdd false) (xBin (opAdd false) (xBin opIx (xVar 1) (xVar 3)) (xBin opIx (xVar 1) (xBin opSub (xVar 0) (xVar 3)))) (xVar 0)) (xVar 3)) (.nm 4)) (sIf (bOr (bVal (xBin (opIsN true) (xVar 2) (xC .non))) (bVal (xBin opLt (xVar 4) (xBin opIx (xVar 2) (xC (.int 0)))))) (sAsg (xTup (aCons (xVar 4) (aCons (xVar 3) (aNil)))) (.nm 2)) (sSkip))) (sSkip))) (sRet (xVar 2)))
def f_parted : List D → Rp := runP c_parted 5
theorem F_parted (a0 a1 : D) : f_parted [a0, a1] = kP (c_parted [some a0, some a1, none, none, none] []) := rfl
theorem d_parted (F : ∃ fa fd, mg "parted" = some (.ref fa) ∧ FunG K "parted" s_parted fa fd) (B : Bt K mg ct) (T : Xt K mg ct ne) (D : D_parted P w K mg base ct) : Dp' P w K mg base 2 "parted" ["lines", "ahead"] (spP K ct 2 f_parted) := by
  obtain ⟨fa, fd, hm, F⟩ := F
  have nd := sc_parted.nd
  refine ⟨fa, fd, hm, F.kp, F.bindsN (fun _ _ _ _ _ _ us hl => match us, hl with | [_, _], _ => rfl), def_P (k := 1) F sc_parted rfl fun cdv A outer s H E hr => ?_⟩
  have tk := takes_of (X := cxG P w K mg base ["lines", "ahead", "found", "first", "many"] "parted" s_parted fa cdv A outer s H E) rfl rfl rfl rfl
  have hp : PassesOwn (model P w) _ _ (cxG P w K mg base ["lines", "ahead", "found", "first", "many"] "parted" s_parted fa cdv A outer s H E).xe := passes_of rfl
  exact (gs_cons (gs_asg (t := .nm 2) (ps_set nd rfl (by first | exact .inl rfl | exact .inr rfl) ge_non)) (gs_cons (gs_for (t := .nm 3) hp rfl (gi_r2 rfl B.range ge_int (ge_var (pv 0))) (pg_name (i := 3) nd rfl (by first | exact .inl rfl | exact .inr rfl)) (gs_one (gs_if (PW.pt (gw_and (gt_cmp op_notN od_notN (ge_ix ix_seq od_ix (ge_var (pv 1)) (ge_var (pv 3)) (fun _ _ => rfl)) ge_non (nomark _)) (gw_and1 (gt_cmp op_notN od_notN (ge_ix ix_seq od_ix (ge_var (pv 1)) (ge_op op_sub od_sub (ge_var (pv 0)) (ge_var (pv 3))) (fun _ _ => rfl)) ge_non (nomark _))))) (gs_cons (gs_asg (t := .nm 4) (ps_set nd rfl (by first | exact .inl rfl | exact .inr rfl) (ge_op op_sub od_sub (ge_op op_addA (od_add false) (ge_op op_addA (od_add false) (ge_ix ix_seq od_ix (ge_var (pv 1)) (ge_var (pv 3)) (fun _ _ => rfl)) (ge_ix ix_seq od_ix (ge_var (pv 1)) (ge_op op_sub od_sub (ge_var (pv 0)) (ge_var (pv 3))) (fun _ _ => rfl))) (ge_var (pv 0))) (ge_var (pv 3))))) (gs_one (gs_if (PW.pt (gw_or (gt_cmp op_isN od_isN (ge_var (pv 2)) ge_non (nomark _)) (gw_or1 (gt_cmp op_lt od_lt (ge_var (pv 4)) (ge_ix ix_seq od_ix (ge_var (pv 2)) ge_int (fun _ _ => rfl)) (nomark _))))) (gs_one (gs_asg (t := .nm 2) (ps_set nd rfl (by first | exact .inl rfl | exact .inr rfl) (ge_tup (ga_cons (ge_var (pv 4)) (ga_cons (ge_var (pv 3)) ga_nil)))))) gs_nil))) gs_nil))) (gs_one (gs_ret (ge_var (pv 2))))))
abbrev s_next_row : Stmt := top 20
theorem sc_next_row : FnScope ["lines", "ahead", "found", "many", "pair"] ["lines", "ahead"] (defScope s_next_row) := ⟨rfl, rfl, rfl, by decide +kernel, rfl, by decide +kernel, by decide +kernel⟩
structure D_next_row (P : Program) (w : World) (K : PySem.W.Frag) (mg : Str → Option Value) (base : Heap) (ct : Ct) : Prop where
  parted : Dp' P w K mg base 2 "parted" ["lines", "ahead"] (spP K ct 2 f_parted)
  u_ : True
def c_next_row : En → M Fl := sSeq (sAsg (xLst true (aCons (xC .non) (aCons (xC (.int 0)) (aNil)))) (.nm 2)) (sSeq (sFor (itR2 (xC (.int 2)) (xBin (opAdd false) (xVar 0) (xC (.int 1)))) (.nm 3) (sSeq (sAsg (xCallP f_parted (aCons (xVar 3) (aCons (xVar 1) (aNil)))) (.nm 4)) (sIf (bVal (xBin (opIsN true) (xVar 4) (xC .non))) (sDrop (xApp (xVar 2) (xC .non))) (sDrop (xApp (xVar 2) (xBin opIx (xVar 4) (xC (.int 0)))))))) (sRet (xVar 2)))
def f_next_row : List D → Rp := runP c_next_row 5
theorem F_next_row (a0 a1 : D) : f_next_row [a0, a1] = kP (c_next_row [some a0, some a1, none, none, none] []) := rfl
theorem d_next_row (F : ∃ fa fd, mg "next_row" = some (.ref fa) ∧ FunG K "next_row" s_next_row fa fd) (B : Bt K mg ct) (T : Xt K mg ct ne) (D : D_next_row P w K mg base ct) : Dp' P w K mg base 3 "next_row" ["lines", "ahead"] (spP K ct 2 f_next_row) := by
  obtain ⟨fa, fd, hm, F⟩ := F
  have nd := sc_next_row.nd
  refine ⟨fa, fd, hm, F.kp, F.bindsN (fun _ _ _ _ _ _ us hl => match us, hl with | [_, _], _ => rfl), def_P (k := 2) F sc_next_row rfl fun cdv A outer s H E hr => ?_⟩
  have tk := takes_of (X := cxG P w K mg base ["lines", "ahead", "found", "many", "pair"] "next_row" s_next_row fa cdv A outer s H E) rfl rfl rfl rfl
  have hp : PassesOwn (model P w) _ _ (cxG P w K mg base ["lines", "ahead", "found", "many", "pair"] "next_row" s_next_row fa cdv A outer s H E).xe := passes_of rfl
  exact (gs_cons (gs_asg (t := .nm 2) (ps_set nd rfl (by first | exact .inl rfl | exact .inr rfl) (ge_lst true (ga_cons ge_non (ga_cons ge_int ga_nil))))) (gs_cons (gs_for (t := .nm 3) hp rfl (gi_r2 rfl B.range ge_int (ge_op op_addA (od_add false) (ge_var (pv 0)) ge_int)) (pg_name (i := 3) nd rfl (by first | exact .inl rfl | exact .inr rfl)) (gs_cons (gs_asg (t := .nm 4) (ps_set nd rfl (by first | exact .inl rfl | exact .inr rfl) (gc_P D.parted hr (by decide) tk rfl (an_cons (an_cons an_nil)) (ga_cons (ge_var (pv 3)) (ga_cons (ge_var (pv 1)) ga_nil))))) (gs_one (gs_if (gt_cmp op_isN od_isN (ge_var (pv 4)) ge_non (nomark _)) (gs_one (gs_drop (ge_app (ge_var (pv 2)) ge_non))) (gs_one (gs_drop (ge_app (ge_var (pv 2)) (ge_ix ix_seq od_ix (ge_var (pv 4)) ge_int (fun _ _ => rfl))))))))) (gs_one (gs_ret (ge_var (pv 2))))))
abbrev s_table_of : Stmt := top 21
theorem sc_table_of : FnScope ["lines", "layers", "table", "layer"] ["lines", "layers"] (defScope s_table_of) := ⟨rfl, rfl, rfl, by decide +kernel, rfl, by decide +kernel, by decide +kernel⟩
structure D_table_of (P : Program) (w : World) (K : PySem.W.Frag) (mg : Str → Option Value) (base : Heap) (ct : Ct) : Prop where
  next_row : Dp' P w K mg base 3 "next_row" ["lines", "ahead"] (spP K ct 2 f_next_row)
  u_ : True
def b_table_of_0 : En → M Fl := sDrop (xApp (xVar 2) (xCallP f_next_row (aCons (xVar 0) (aCons (xBin opIx (xVar 2) (xUn opNeg (xC (.int 1)))) (aNil)))))
def l_table_of_0 : En → M Fl := sFor (itR1 (xCall opMin2 (aCons (xVar 1) (aCons (xVar 0) (aNil))))) (.nm 3) b_table_of_0
def c_table_of : En → M Fl := sSeq (sAsg (xLst true (aCons (xBin (opAdd false) (xLst false (aCons (xC .non) (aCons (xC (.int 0)) (aNil)))) (xBin (opMulX false) (xLst false (aCons (xC .non) (aNil))) (xBin opSub (xVar 0) (xC (.int 1))))) (aNil))) (.nm 2)) (sSeq (l_table_of_0) (sRet (xVar 2)))
def f_table_of : List D → Rp := runP c_table_of 4
theorem F_table_of (a0 a1 : D) : f_table_of [a0, a1] = kP (c_table_of [some a0, some a1, none, none] []) := rfl
theorem d_table_of (F : ∃ fa fd, mg "table_of" = some (.ref fa) ∧ FunG K "table_of" s_table_of fa fd) (B : Bt K mg ct) (T : Xt K mg ct ne) (D : D_table_of P w K mg base ct) : Dp' P w K mg base 4 "table_of" ["lines", "layers"] (spP K ct 2 f_table_of) := by
  obtain ⟨fa, fd, hm, F⟩ := F
  have nd := sc_table_of.nd
  refine ⟨fa, fd, hm, F.kp, F.bindsN (fun _ _ _ _ _ _ us hl => match us, hl with | [_, _], _ => rfl), def_P (k := 3) F sc_table_of rfl fun cdv A outer s H E hr => ?_⟩
  have tk := takes_of (X := cxG P w K mg base ["lines", "layers", "table", "layer"] "table_of" s_table_of fa cdv A outer s H E) rfl rfl rfl rfl
  have hp : PassesOwn (model P w) _ _ (cxG P w K mg base ["lines", "layers", "table", "layer"] "table_of" s_table_of fa cdv A outer s H E).xe := passes_of rfl
  exact (gs_cons (gs_asg (t := .nm 2) (ps_set nd rfl (by first | exact .inl rfl | exact .inr rfl) (ge_lst true (ga_cons (ge_op op_addA (od_add false) (ge_lst false (ga_cons ge_non (ga_cons ge_int ga_nil))) (ge_op op_mulX (od_mulX false) (ge_lst false (ga_cons ge_non ga_nil)) (ge_op op_sub od_sub (ge_var (pv 0)) ge_int))) ga_nil)))) (gs_cons (gs_for (it := itR1 (xCall opMin2 (aCons (xVar 1) (aCons (xVar 0) (aNil))))) (b := b_table_of_0) (t := .nm 3) hp rfl (gi_r1 rfl B.range (ge_callB (call_min2 rfl) cd_min2 rfl B.min (by decide +kernel) (ga_cons (ge_var (pv 1)) (ga_cons (ge_var (pv 0)) ga_nil)))) (pg_name (i := 3) nd rfl (by first | exact .inl rfl | exact .inr rfl)) (gs_one (gs_drop (ge_app (ge_var (pv 2)) (gc_P D.next_row hr (by decide) tk rfl (an_cons (an_cons an_nil)) (ga_cons (ge_var (pv 0)) (ga_cons (ge_ix ix_seq od_ix (ge_var (pv 2)) (ge_un un_neg ud_neg ge_int) (fun _ _ => rfl)) ga_nil))))))) (gs_one (gs_ret (ge_var (pv 2))))))
abbrev s_need_wish : Stmt := top 22
theorem sc_need_wish : FnScope ["lines", "layers"] ["lines", "layers"] (defScope s_need_wish) := ⟨rfl, rfl, rfl, by decide +kernel, rfl, by decide +kernel, by decide +kernel⟩
structure D_need_wish (P : Program) (w : World) (K : PySem.W.Frag) (mg : Str → Option Value) (base : Heap) (ct : Ct) : Prop where
  need_lines : Dp' P w K mg base 4 "need_lines" ["lines"] (spP K ct 1 f_need_lines)
  is_among : Dp' P w K mg base 3 "is_among" ["thing", "least", "most"] (spP K ct 3 f_is_among)
  u_ : True
def c_need_wish : En → M Fl := sSeq (sDrop (xCallP f_need_lines (aCons (xVar 0) (aNil)))) (sIf (bNot (bVal (xCallP f_is_among (aCons (xVar 1) (aCons (xC (.int 0)) (aCons (xC (.int 80)) (aNil))))))) (sRaise .lines) (sSkip))
def f_need_wish : List D → Rp := runP c_need_wish 2
theorem F_need_wish (a0 a1 : D) : f_need_wish [a0, a1] = kP (c_need_wish [some a0, some a1] []) := rfl
theorem d_need_wish (F : ∃ fa fd, mg "need_wish" = some (.ref fa) ∧ FunG K "need_wish" s_need_wish fa fd) (B : Bt K mg ct) (T : Xt K mg ct ne) (D : D_need_wish P w K mg base ct) : Dp' P w K mg base 5 "need_wish" ["lines", "layers"] (spP K ct 2 f_need_wish) := by
  obtain ⟨fa, fd, hm, F⟩ := F
  have nd := sc_need_wish.nd
  refine ⟨fa, fd, hm, F.kp, F.bindsN (fun _ _ _ _ _ _ us hl => match us, hl with | [_, _], _ => rfl), def_P (k := 4) F sc_need_wish rfl fun cdv A outer s H E hr => ?_⟩
  have tk := takes_of (X := cxG P w K mg base ["lines", "layers"] "need_wish" s_need_wish fa cdv A outer s H E) rfl rfl rfl rfl
  exact (gs_cons (gs_drop (gc_P D.need_lines hr (by decide) tk rfl (an_cons an_nil) (ga_cons (ge_var (pv 0)) ga_nil))) (gs_one (gs_if (gt_not (gt_val (gc_P D.is_among hr (by decide) tk rfl (an_cons (an_cons (an_cons an_nil))) (ga_cons (ge_var (pv 1)) (ga_cons ge_int (ga_cons (ge_gint B.c_MOST_LAYERS rfl) ga_nil)))))) (gs_one (gs_raise4 .lines rfl tk B.x_lines.exc B.x_lines.mg B.x_lines.keep (B.x_lines.raises) rfl)) gs_nil)))
abbrev s_fewest : Stmt := top 23
theorem sc_fewest : FnScope ["lines", "layers"] ["lines", "layers"] (defScope s_fewest) := ⟨rfl, rfl, rfl, by decide +kernel, rfl, by decide +kernel, by decide +kernel⟩
structure D_fewest (P : Program) (w : World) (K : PySem.W.Frag) (mg : Str → Option Value) (base : Heap) (ct : Ct) : Prop where
  need_wish : Dp' P w K mg base 5 "need_wish" ["lines", "layers"] (spP K ct 2 f_need_wish)
  table_of : Dp' P w K mg base 4 "table_of" ["lines", "layers"] (spP K ct 2 f_table_of)
  u_ : True
def c_fewest : En → M Fl := sSeq (sDrop (xCallP f_need_wish (aCons (xVar 0) (aCons (xVar 1) (aNil))))) (sRet (xBin opIx (xBin opIx (xCallP f_table_of (aCons (xVar 0) (aCons (xVar 1) (aNil)))) (xUn opNeg (xC (.int 1)))) (xVar 0)))
def f_fewest : List D → Rp := runP c_fewest 2
theorem F_fewest (a0 a1 : D) : f_fewest [a0, a1] = kP (c_fewest [some a0, some a1] []) := rfl
theorem d_fewest (F : ∃ fa fd, mg "fewest" = some (.ref fa) ∧ FunG K "fewest" s_fewest fa fd) (B : Bt K mg ct) (T : Xt K mg ct ne) (D : D_fewest P w K mg base ct) : Dp' P w K mg base 6 "fewest" ["lines", "layers"] (spP K ct 2 f_fewest) := by
  obtain ⟨fa, fd, hm, F⟩ := F
  have nd := sc_fewest.nd
  refine ⟨fa, fd, hm, F.kp, F.bindsN (fun _ _ _ _ _ _ us hl => match us, hl with | [_, _], _ => rfl), def_P (k := 5) F sc_fewest rfl fun cdv A outer s H E hr => ?_⟩
  have tk := takes_of (X := cxG P w K mg base ["lines", "layers"] "fewest" s_fewest fa cdv A outer s H E) rfl rfl rfl rfl
  exact (gs_cons (gs_drop (gc_P D.need_wish hr (by decide) tk rfl (an_cons (an_cons an_nil)) (ga_cons (ge_var (pv 0)) (ga_cons (ge_var (pv 1)) ga_nil)))) (gs_one (gs_ret (ge_ix ix_seq od_ix (ge_ix ix_seq od_ix (gc_P D.table_of hr (by decide) tk rfl (an_cons (an_cons an_nil)) (ga_cons (ge_var (pv 0)) (ga_cons (ge_var (pv 1)) ga_nil))) (ge_un un_neg ud_neg ge_int) (fun _ _ => rfl)) (ge_var (pv 0)) (fun _ _ => rfl)))))
abbrev s_laid : Stmt := top 24
theorem sc_laid : FnScope ["lines", "layers", "table", "first"] ["lines", "layers", "table"] (defScope s_laid) := ⟨rfl, rfl, rfl, by decide +kernel, rfl, by decide +kernel, by decide +kernel⟩
structure D_laid (P : Program) (w : World) (K : PySem.W.Frag) (mg : Str → Option Value) (base : Heap) (ct : Ct) : Prop where
  parted : Dp' P w K mg base 2 "parted" ["lines", "ahead"] (spP K ct 2 f_parted)
  put_behind : Dp' P w K mg base 3 "put_behind" ["one", "first", "other", "many"] (spP K ct 4 f_put_behind)
  u_ : True
def c_laid (r : List D → Rp) : En → M Fl := sSeq (sIf (bVal (xBin (opEq true) (xVar 0) (xC (.int 1)))) (sRet (xLst false (aNil))) (sSkip)) (sSeq (sAsg (xCall opMin2 (aCons (xVar 1) (aCons (xBin opSub (xCall opLen (aCons (xVar 2) (aNil))) (xC (.int 1))) (aNil)))) (.nm 1)) (sSeq (sAsg (xBin opIx (xCallP f_parted (aCons (xVar 0) (aCons (xBin opIx (xVar 2) (xBin opSub (xVar 1) (xC (.int 1)))) (aNil)))) (xC (.int 1))) (.nm 3)) (sRet (xCallP f_put_behind (aCons (xCallP r (aCons (xVar 3) (aCons (xBin opSub (xVar 1) (xC (.int 1))) (aCons (xVar 2) (aNil))))) (aCons (xVar 3) (aCons (xCallP r (aCons (xBin opSub (xVar 0) (xVar 3)) (aCons (xBin opSub (xVar 1) (xC (.int 1))) (aCons (xVar 2) (aNil))))) (aCons (xBin opSub (xVar 0) (xVar 3)) (aNil)))))))))
def g_laid : Nat → List D → Rp
  | 0 => fun _ => .no
  | n + 1 => runP (c_laid (g_laid n)) 4
def f_laid : List D → Rp := g_laid 18
theorem d_laid (F : ∃ fa fd, mg "laid" = some (.ref fa) ∧ FunG K "laid" s_laid fa fd) (B : Bt K mg ct) (T : Xt K mg ct ne) (D : D_laid P w K mg base ct) : Dp' P w K mg base 22 "laid" ["lines", "layers", "table"] (spP K ct 3 f_laid) := by
  obtain ⟨fa, fd, hm, F⟩ := F
  have nd := sc_laid.nd
  have all : ∀ m, Dp' P w K mg base (4 + m) "laid" ["lines", "layers", "table"] (spP K ct 3 (g_laid m)) := fun m => by
    induction m with
    | zero => exact ⟨fa, fd, hm, F.kp, F.bindsN (fun _ _ _ _ _ _ us hl => match us, hl with | [_, _, _], _ => rfl), fn_no rfl⟩
    | succ m IH =>
      refine ⟨fa, fd, hm, F.kp, F.bindsN (fun _ _ _ _ _ _ us hl => match us, hl with | [_, _, _], _ => rfl), def_P (k := 4 + m) F sc_laid rfl fun cdv A outer s H E hr => ?_⟩
      have tk := takes_of (X := cxG P w K mg base ["lines", "layers", "table", "first"] "laid" s_laid fa cdv A outer s H E) rfl rfl rfl rfl
      exact (gs_cons (gs_if (gt_cmp (op_eqD hr.units) od_eq (ge_var (pv 0)) ge_int (nomark _)) (gs_one (gs_ret (ge_lst false ga_nil))) gs_nil) (gs_cons (gs_asg (t := .nm 1) (ps_set nd rfl (by first | exact .inl rfl | exact .inr rfl) (ge_callB (call_min2 rfl) cd_min2 rfl B.min (by decide +kernel) (ga_cons (ge_var (pv 1)) (ga_cons (ge_op op_sub od_sub (ge_callB call_len cd_len rfl B.len PySem.boot_len (ga_cons (ge_var (pv 2)) ga_nil)) ge_int) ga_nil))))) (gs_cons (gs_asg (t := .nm 3) (ps_set nd rfl (by first | exact .inl rfl | exact .inr rfl) (ge_ix ix_seq od_ix (gc_P D.parted hr (by omega) tk rfl (an_cons (an_cons an_nil)) (ga_cons (ge_var (pv 0)) (ga_cons (ge_ix ix_seq od_ix (ge_var (pv 2)) (ge_op op_sub od_sub (ge_var (pv 1)) ge_int) (fun _ _ => rfl)) ga_nil))) ge_int (fun _ _ => rfl)))) (gs_one (gs_ret (gc_P D.put_behind hr (by omega) tk rfl (an_cons (an_cons (an_cons (an_cons an_nil)))) (ga_cons (gc_P IH hr (by omega) tk rfl (an_cons (an_cons (an_cons an_nil))) (ga_cons (ge_var (pv 3)) (ga_cons (ge_op op_sub od_sub (ge_var (pv 1)) ge_int) (ga_cons (ge_var (pv 2)) ga_nil)))) (ga_cons (ge_var (pv 3)) (ga_cons (gc_P IH hr (by omega) tk rfl (an_cons (an_cons (an_cons an_nil))) (ga_cons (ge_op op_sub od_sub (ge_var (pv 0)) (ge_var (pv 3))) (ga_cons (ge_op op_sub od_sub (ge_var (pv 1)) ge_int) (ga_cons (ge_var (pv 2)) ga_nil)))) (ga_cons (ge_op op_sub od_sub (ge_var (pv 0)) (ge_var (pv 3))) ga_nil))))))))))
  exact all 18
abbrev s_thrifty : Stmt := top 25
theorem sc_thrifty : FnScope ["lines", "layers", "table"] ["lines", "layers"] (defScope s_thrifty) := ⟨rfl, rfl, rfl, by decide +kernel, rfl, by decide +kernel, by decide +kernel⟩
structure D_thrifty (P : Program) (w : World) (K : PySem.W.Frag) (mg : Str → Option Value) (base : Heap) (ct : Ct) : Prop where
  need_wish : Dp' P w K mg base 5 "need_wish" ["lines", "layers"] (spP K ct 2 f_need_wish)
  table_of : Dp' P w K mg base 4 "table_of" ["lines", "layers"] (spP K ct 2 f_table_of)
  laid : Dp' P w K mg base 22 "laid" ["lines", "layers", "table"] (spP K ct 3 f_laid)
  u_ : True
def c_thrifty : En → M Fl := sSeq (sDrop (xCallP f_need_wish (aCons (xVar 0) (aCons (xVar 1) (aNil))))) (sSeq (sAsg (xCallP f_table_of (aCons (xVar 0) (aCons (xVar 1) (aNil)))) (.nm 2)) (sSeq (sIf (bVal (xBin (opIsN true) (xBin opIx (xBin opIx (xVar 2) (xUn opNeg (xC (.int 1)))) (xVar 0)) (xC .non))) (sRaise .nonet) (sSkip)) (sRet (xCallP f_laid (aCons (xVar 0) (aCons (xVar 1) (aCons (xVar 2) (aNil))))))))
def f_thrifty : List D → Rp := runP c_thrifty 3
theorem F_thrifty (a0 a1 : D) : f_thrifty [a0, a1] = kP (c_thrifty [some a0, some a1, none] []) := rfl
theorem d_thrifty (F : ∃ fa fd, mg "thrifty" = some (.ref fa) ∧ FunG K "thrifty" s_thrifty fa fd) (B : Bt K mg ct) (T : Xt K mg ct ne) (D : D_thrifty P w K mg base ct) : Dp' P w K mg base 23 "thrifty" ["lines", "layers"] (spP K ct 2 f_thrifty) := by
  obtain ⟨fa, fd, hm, F⟩ := F
  have nd := sc_thrifty.nd
  refine ⟨fa, fd, hm, F.kp, F.bindsN (fun _ _ _ _ _ _ us hl => match us, hl with | [_, _], _ => rfl), def_P (k := 22) F sc_thrifty rfl fun cdv A outer s H E hr => ?_⟩
  have tk := takes_of (X := cxG P w K mg base ["lines", "layers", "table"] "thrifty" s_thrifty fa cdv A outer s H E) rfl rfl rfl rfl
  exact (gs_cons (gs_drop (gc_P D.need_wish hr (by decide) tk rfl (an_cons (an_cons an_nil)) (ga_cons (ge_var (pv 0)) (ga_cons (ge_var (pv 1)) ga_nil)))) (gs_cons (gs_asg (t := .nm 2) (ps_set nd rfl (by first | exact .inl rfl | exact .inr rfl) (gc_P D.table_of hr (by decide) tk rfl (an_cons (an_cons an_nil)) (ga_cons (ge_var (pv 0)) (ga_cons (ge_var (pv 1)) ga_nil))))) (gs_cons (gs_if (gt_cmp op_isN od_isN (ge_ix ix_seq od_ix (ge_ix ix_seq od_ix (ge_var (pv 2)) (ge_un un_neg ud_neg ge_int) (fun _ _ => rfl)) (ge_var (pv 0)) (fun _ _ => rfl)) ge_non (nomark _)) (gs_one (gs_raise4 .nonet rfl tk B.x_nonet.exc B.x_nonet.mg B.x_nonet.keep (B.x_nonet.raises) rfl)) gs_nil) (gs_one (gs_ret (gc_P D.laid hr (by decide) tk rfl (an_cons (an_cons (an_cons an_nil))) (ga_cons (ge_var (pv 0)) (ga_cons (ge_var (pv 1)) (ga_cons (ge_var (pv 2)) ga_nil)))))))))
abbrev s__law_cell_at : Stmt := top 27
theorem sc__law_cell_at : FnScope ["_law_script", "_law_k"] ["_law_script", "_law_k"] (defScope s__law_cell_at) := ⟨rfl, rfl, rfl, by decide +kernel, rfl, by decide +kernel, by decide +kernel⟩
structure D__law_cell_at (P : Program) (w : World) (K : PySem.W.Frag) (mg : Str → Option Value) (base : Heap) (ct : Ct) : Prop where
  u_ : True
def c__law_cell_at : En → M Fl := sSeq (sIf (bVal (xBin opLt (xVar 1) (xCall opLen (aCons (xVar 0) (aNil))))) (sRet (xBin opIx (xVar 0) (xVar 1))) (sSkip)) (sRet (xC (.int 0)))
def f__law_cell_at : List D → Rp := runP c__law_cell_at 2
theorem F__law_cell_at (a0 a1 : D) : f__law_cell_at [a0, a1] = kP (c__law_cell_at [some a0, some a1] []) := rfl
theorem d__law_cell_at (F : ∃ fa fd, mg "_law_cell_at" = some (.ref fa) ∧ FunG K "_law_cell_at" s__law_cell_at fa fd) (B : Bt K mg ct) (T : Xt K mg ct ne) (D : D__law_cell_at P w K mg base ct) : Dp' P w K mg base 2 "_law_cell_at" ["_law_script", "_law_k"] (spP K ct 2 f__law_cell_at) := by
  obtain ⟨fa, fd, hm, F⟩ := F
  have nd := sc__law_cell_at.nd
  refine ⟨fa, fd, hm, F.kp, F.bindsN (fun _ _ _ _ _ _ us hl => match us, hl with | [_, _], _ => rfl), def_P (k := 1) F sc__law_cell_at rfl fun cdv A outer s H E hr => ?_⟩
  have tk := takes_of (X := cxG P w K mg base ["_law_script", "_law_k"] "_law_cell_at" s__law_cell_at fa cdv A outer s H E) rfl rfl rfl rfl
  exact (gs_cons (gs_if (gt_cmp op_lt od_lt (ge_var (pv 1)) (ge_callB call_len cd_len rfl B.len PySem.boot_len (ga_cons (ge_var (pv 0)) ga_nil)) (nomark _)) (gs_one (gs_ret (ge_ix ix_seq od_ix (ge_var (pv 0)) (ge_var (pv 1)) (fun _ _ => rfl)))) gs_nil) (gs_one (gs_ret ge_int)))
abbrev s__law_whole : Stmt := top 28
theorem sc__law_whole : FnScope ["_law_found"] ["_law_found"] (defScope s__law_whole) := ⟨rfl, rfl, rfl, by decide +kernel, rfl, by decide +kernel, by decide +kernel⟩
structure D__law_whole (P : Program) (w : World) (K : PySem.W.Frag) (mg : Str → Option Value) (base : Heap) (ct : Ct) : Prop where
  u_ : True
def c__law_whole : En → M Fl := sRet (xAnd (xUn (opIs .int) (xVar 0)) (xNot (xUn (opIs .bool) (xVar 0))))
def f__law_whole : List D → Rp := runP c__law_whole 1
theorem F__law_whole (a0 : D) : f__law_whole [a0] = kP (c__law_whole [some a0] []) := rfl
theorem d__law_whole (F : ∃ fa fd, mg "_law_whole" = some (.ref fa) ∧ FunG K "_law_whole" s__law_whole fa fd) (B : Bt K mg ct) (T : Xt K mg ct ne) (D : D__law_whole P w K mg base ct) : Dp' P w K mg base 2 "_law_whole" ["_law_found"] (spP K ct 1 f__law_whole) := by
  obtain ⟨fa, fd, hm, F⟩ := F
  have nd := sc__law_whole.nd
  refine ⟨fa, fd, hm, F.kp, F.bindsN (fun _ _ _ _ _ _ us hl => match us, hl with | [_], _ => rfl), def_P (k := 1) F sc__law_whole rfl fun cdv A outer s H E hr => ?_⟩
  have tk := takes_of (X := cxG P w K mg base ["_law_found"] "_law_whole" s__law_whole fa cdv A outer s H E) rfl rfl rfl rfl
  exact (gs_one (gs_ret (ge_and (ge_isi (T := .int) rfl B.isinstance rfl B.int (by decide +kernel) (ge_var (pv 0))) (ge_one (ge_not (ge_isi (T := .bool) rfl B.isinstance rfl B.bool (by decide +kernel) (ge_var (pv 0))))))))
abbrev s__law_word : Stmt := top 29
theorem sc__law_word : FnScope ["_law_e", "_law_mine"] ["_law_e"] (defScope s__law_word) := ⟨rfl, rfl, rfl, by decide +kernel, rfl, by decide +kernel, by decide +kernel⟩
structure D__law_word (P : Program) (w : World) (K : PySem.W.Frag) (mg : Str → Option Value) (base : Heap) (ct : Ct) : Prop where
  u_ : True
theorem d__law_word (F : ∃ fa fd, mg "_law_word" = some (.ref fa) ∧ FunG K "_law_word" s__law_word fa fd) (B : Bt K mg ct) (T : Xt K mg ct ne) (D : D__law_word P w K mg base ct) : DpE P w K mg base ct 2 := by
  obtain ⟨fa, fd, hm, F⟩ := F
  have nd := sc__law_word.nd
  refine ⟨fa, fd, hm, F.kp, F.bindsN (fun _ _ _ _ _ _ us hl => match us, hl with | [_], _ => rfl), def_E (k := 1) F sc__law_word fun cdv A outer s H vs Q p h => ?_⟩
  obtain ⟨y, rfl, hz, hf, hq⟩ := h
  refine ⟨_, pss_cons (ps_set (i := 1) nd rfl (by first | exact .inl rfl | exact .inr rfl) (pe_lst (pa_cons (pe_xOwn (X := cxE P w K mg base ["_law_e", "_law_mine"] "_law_word" s__law_word fa cdv A outer s H p) (T.ex y) List.mem_cons_self hz hf B.isinstance B.x_kind.mg (T.is4 y .kind) (pv 0) rfl rfl) (pa_cons (pe_xOwn (X := cxE P w K mg base ["_law_e", "_law_mine"] "_law_word" s__law_word fa cdv A outer s H p) (T.ex y) List.mem_cons_self hz hf B.isinstance B.x_thing.mg (T.is4 y .thing) (pv 0) rfl rfl) (pa_cons (pe_xOwn (X := cxE P w K mg base ["_law_e", "_law_mine"] "_law_word" s__law_word fa cdv A outer s H p) (T.ex y) List.mem_cons_self hz hf B.isinstance B.x_lines.mg (T.is4 y .lines) (pv 0) rfl rfl) (pa_cons (pe_xOwn (X := cxE P w K mg base ["_law_e", "_law_mine"] "_law_word" s__law_word fa cdv A outer s H p) (T.ex y) List.mem_cons_self hz hf B.isinstance T.mgN (T.isN y) (pv 0) rfl rfl) pa_nil)))))) (pss_cons (ps_expr (pe_bm PySem.F.plainAttrs_list PySem.F.slot_list_append PySem.F.type_list_append mt_append (pv 1) (pa_cons (pe_xOwn (X := cxE P w K mg base ["_law_e", "_law_mine"] "_law_word" s__law_word fa cdv A outer s H p) (T.ex y) List.mem_cons_self hz hf B.isinstance B.x_nonet.mg (T.is4 y .nonet) (pv 0) rfl rfl) pa_nil))) (pss_cons (ps_if (PW.pt (pw_or (pt_cmpR op_ne (pe_bm PySem.F.plainAttrs_list PySem.F.slot_list_count PySem.F.type_list_count mt_countF (pv 1) (pa_cons pe_bl pa_nil)) pe_int (nomark _)) (pw_or1 (pt_not (pt_val (pe_xVal (X := cxE P w K mg base ["_law_e", "_law_mine"] "_law_word" s__law_word fa cdv A outer s H p) (T.ex y) List.mem_cons_self hz hf B.isinstance T.mgV (T.isV y) (pv 0) rfl rfl)))))) (pss_one (ps_ret (pe_lst (pa_cons pe_str pa_nil)))) pss_nil) (pss_one (ps_ret (pe_lst (pa_cons (pe_ix ix_seq (pe_lst (pa_cons pe_str (pa_cons pe_str (pa_cons pe_str (pa_cons pe_str (pa_cons pe_str pa_nil)))))) (pe_bm PySem.F.plainAttrs_list PySem.F.slot_list_index PySem.F.type_list_index mt_index (pv 1) (pa_cons pe_bl pa_nil)) (fun _ _ => rfl)) pa_nil)))))), ?_⟩
  exact word_wish hq
abbrev s__law_tried : Stmt := top 30
theorem sc__law_tried : FnScope ["_law_which", "_law_lines", "_law_layers", "_law_e"] ["_law_which", "_law_lines", "_law_layers"] (defScope s__law_tried) := ⟨rfl, rfl, rfl, by decide +kernel, rfl, by decide +kernel, by decide +kernel⟩
structure D__law_tried (P : Program) (w : World) (K : PySem.W.Frag) (mg : Str → Option Value) (base : Heap) (ct : Ct) : Prop where
  fewest : Dp' P w K mg base 6 "fewest" ["lines", "layers"] (spP K ct 2 f_fewest)
  thrifty : Dp' P w K mg base 23 "thrifty" ["lines", "layers"] (spP K ct 2 f_thrifty)
  _law_word : DpE P w K mg base ct 2
  u_ : True
def c__law_tried : En → M Fl := sTryW 3 (sSeq (sIf (bVal (xBin (opEq true) (xVar 0) (xC (.int 0)))) (sRet (xTup (aCons (xCallP f_fewest (aCons (xVar 1) (aCons (xVar 2) (aNil)))) (aNil)))) (sSkip)) (sRet (xTup (aCons (xCallP f_thrifty (aCons (xVar 1) (aCons (xVar 2) (aNil)))) (aNil)))))
def f__law_tried : List D → Rp := runP c__law_tried 4
theorem F__law_tried (a0 a1 a2 : D) : f__law_tried [a0, a1, a2] = kP (c__law_tried [some a0, some a1, some a2, none] []) := rfl
theorem d__law_tried (F : ∃ fa fd, mg "_law_tried" = some (.ref fa) ∧ FunG K "_law_tried" s__law_tried fa fd) (B : Bt K mg ct) (T : Xt K mg ct ne) (D : D__law_tried P w K mg base ct) : Dp' P w K mg base 24 "_law_tried" ["_law_which", "_law_lines", "_law_layers"] (spP K ct 3 f__law_tried) := by
  obtain ⟨fa, fd, hm, F⟩ := F
  have nd := sc__law_tried.nd
  refine ⟨fa, fd, hm, F.kp, F.bindsN (fun _ _ _ _ _ _ us hl => match us, hl with | [_, _, _], _ => rfl), def_P (k := 23) F sc__law_tried rfl fun cdv A outer s H E hr => ?_⟩
  have tk := takes_of (X := cxG P w K mg base ["_law_which", "_law_lines", "_law_layers", "_law_e"] "_law_tried" s__law_tried fa cdv A outer s H E) rfl rfl rfl rfl
  exact (gs_one (gs_tryW (i := 3) T rfl rfl nd rfl rfl rfl tk hr (by decide) D._law_word rfl (fun a pn => (pv 3)) rfl (fun W pn xe tk hp => (gs_cons (gs_if (gt_cmp (op_eqD hr.units) od_eq (ge_var (pv 0)) ge_int (nomark _)) (gs_one (gs_ret (ge_tup (ga_cons (gc_P D.fewest hr (by decide) tk rfl (an_cons (an_cons an_nil)) (ga_cons (ge_var (pv 1)) (ga_cons (ge_var (pv 2)) ga_nil))) ga_nil)))) gs_nil) (gs_one (gs_ret (ge_tup (ga_cons (gc_P D.thrifty hr (by decide) tk rfl (an_cons (an_cons an_nil)) (ga_cons (ge_var (pv 1)) (ga_cons (ge_var (pv 2)) ga_nil))) ga_nil))))))))
abbrev s__law_least : Stmt := top 31
theorem sc__law_least : FnScope ["_law_lines", "_law_layers", "_law_table", "_law_deep", "_law_row", "_law_many", "_law_some", "_law_ahead", "_law_k"] ["_law_lines", "_law_layers"] (defScope s__law_least) := ⟨rfl, rfl, rfl, by decide +kernel, rfl, by decide +kernel, by decide +kernel⟩
structure D__law_least (P : Program) (w : World) (K : PySem.W.Frag) (mg : Str → Option Value) (base : Heap) (ct : Ct) : Prop where
  u_ : True
def e__law_least_0 : En → M D := xBin opSub (xBin (opAdd false) (xBin (opAdd false) (xBin opIx (xVar 7) (xVar 8)) (xBin opIx (xVar 7) (xBin opSub (xVar 5) (xVar 8)))) (xVar 5)) (xVar 8)
def m__law_least_0 : En → M D := xLcN false (itR2 (xC (.int 1)) (xVar 5)) [8] (.nm 8) (bYes) e__law_least_0
def b__law_least_0 : En → M Fl := sSeq (sAsg (xLst false (aNil)) (.nm 6)) (sSeq (sIf (bVal (xBin opGt (xVar 3) (xC (.int 0)))) (sSeq (sAsg (xBin opIx (xVar 2) (xBin opSub (xVar 3) (xC (.int 1)))) (.nm 7)) (sAsg (m__law_least_0) (.nm 6))) (sSkip)) (sDrop (xApp (xVar 4) (xMinD (xVar 6) (xC (.int 1000000))))))
def l__law_least_0 : En → M Fl := sFor (itR2 (xC (.int 2)) (xBin (opAdd false) (xVar 0) (xC (.int 1)))) (.nm 5) b__law_least_0
def b__law_least_1 : En → M Fl := sSeq (sAsg (xLst true (aCons (xC (.int 0)) (aCons (xC (.int 0)) (aNil)))) (.nm 4)) (sSeq (l__law_least_0) (sDrop (xApp (xVar 2) (xVar 4))))
def l__law_least_1 : En → M Fl := sFor (itR1 (xBin (opAdd false) (xCall opMin2 (aCons (xVar 1) (aCons (xVar 0) (aNil)))) (xC (.int 1)))) (.nm 3) b__law_least_1
def c__law_least : En → M Fl := sSeq (sAsg (xLst true (aNil)) (.nm 2)) (sSeq (l__law_least_1) (sRet (xBin opIx (xBin opIx (xVar 2) (xUn opNeg (xC (.int 1)))) (xVar 0))))
def f__law_least : List D → Rp := runP c__law_least 9
theorem F__law_least (a0 a1 : D) : f__law_least [a0, a1] = kP (c__law_least [some a0, some a1, none, none, none, none, none, none, none] []) := rfl
theorem d__law_least (F : ∃ fa fd, mg "_law_least" = some (.ref fa) ∧ FunG K "_law_least" s__law_least fa fd) (B : Bt K mg ct) (T : Xt K mg ct ne) (D : D__law_least P w K mg base ct) : Dp' P w K mg base 2 "_law_least" ["_law_lines", "_law_layers"] (spP K ct 2 f__law_least) := by
  obtain ⟨fa, fd, hm, F⟩ := F
  have nd := sc__law_least.nd
  refine ⟨fa, fd, hm, F.kp, F.bindsN (fun _ _ _ _ _ _ us hl => match us, hl with | [_, _], _ => rfl), def_P (k := 1) F sc__law_least rfl fun cdv A outer s H E hr => ?_⟩
  have tk := takes_of (X := cxG P w K mg base ["_law_lines", "_law_layers", "_law_table", "_law_deep", "_law_row", "_law_many", "_law_some", "_law_ahead", "_law_k"] "_law_least" s__law_least fa cdv A outer s H E) rfl rfl rfl rfl
  have hp : PassesOwn (model P w) _ _ (cxG P w K mg base ["_law_lines", "_law_layers", "_law_table", "_law_deep", "_law_row", "_law_many", "_law_some", "_law_ahead", "_law_k"] "_law_least" s__law_least fa cdv A outer s H E).xe := passes_of rfl
  exact (gs_cons (gs_asg (t := .nm 2) (ps_set nd rfl (by first | exact .inl rfl | exact .inr rfl) (ge_lst true ga_nil))) (gs_cons (gs_for (it := itR1 (xBin (opAdd false) (xCall opMin2 (aCons (xVar 1) (aCons (xVar 0) (aNil)))) (xC (.int 1)))) (b := b__law_least_1) (t := .nm 3) hp rfl (gi_r1 rfl B.range (ge_op op_addA (od_add false) (ge_callB (call_min2 rfl) cd_min2 rfl B.min (by decide +kernel) (ga_cons (ge_var (pv 1)) (ga_cons (ge_var (pv 0)) ga_nil))) ge_int)) (pg_name (i := 3) nd rfl (by first | exact .inl rfl | exact .inr rfl)) (gs_cons (gs_asg (t := .nm 4) (ps_set nd rfl (by first | exact .inl rfl | exact .inr rfl) (ge_lst true (ga_cons ge_int (ga_cons ge_int ga_nil))))) (gs_cons (gs_for (it := itR2 (xC (.int 2)) (xBin (opAdd false) (xVar 0) (xC (.int 1)))) (b := b__law_least_0) (t := .nm 5) hp rfl (gi_r2 rfl B.range ge_int (ge_op op_addA (od_add false) (ge_var (pv 0)) ge_int)) (pg_name (i := 5) nd rfl (by first | exact .inl rfl | exact .inr rfl)) (gs_cons (gs_asg (t := .nm 6) (ps_set nd rfl (by first | exact .inl rfl | exact .inr rfl) (ge_lst false ga_nil))) (gs_cons (gs_if (gt_cmp op_gt od_gt (ge_var (pv 3)) ge_int (nomark _)) (gs_cons (gs_asg (t := .nm 7) (ps_set nd rfl (by first | exact .inl rfl | exact .inr rfl) (ge_ix ix_seq od_ix (ge_var (pv 2)) (ge_op op_sub od_sub (ge_var (pv 3)) ge_int) (fun _ _ => rfl)))) (gs_one (gs_lc (own := [("_law_k", 8)]) (t := .nm 8) (i := 6) (c := false) (by decide) (ps_setLc rfl nd rfl rfl (sw_true rfl rfl rfl (by decide +kernel)) (own := [("_law_k", 8)]) (gi_r2 rfl B.range ge_int (ge_var (pv 5))) (blkOk_by (own := [("_law_k", 8)]) (by kernel_rfl)) (fun _ _ _ _ _ => (pg_name (i := 8) nd rfl (by first | exact .inl rfl | exact .inr rfl))) (fun _ _ _ _ _ => gts_nil) (fun _ _ _ _ _ => (ge_op op_sub od_sub (ge_op op_addA (od_add false) (ge_op op_addA (od_add false) (ge_ix ix_seq od_ix (ge_var (pv 7)) (ge_var (pv 8)) (fun _ _ => rfl)) (ge_ix ix_seq od_ix (ge_var (pv 7)) (ge_op op_sub od_sub (ge_var (pv 5)) (ge_var (pv 8))) (fun _ _ => rfl))) (ge_var (pv 5))) (ge_var (pv 8)))))))) gs_nil) (gs_one (gs_drop (ge_app (ge_var (pv 4)) (ge_minD rfl rfl B.min (by decide +kernel) (ge_var (pv 6)) ge_int))))))) (gs_one (gs_drop (ge_app (ge_var (pv 2)) (ge_var (pv 4)))))))) (gs_one (gs_ret (ge_ix ix_seq od_ix (ge_ix ix_seq od_ix (ge_var (pv 2)) (ge_un un_neg ud_neg ge_int) (fun _ _ => rfl)) (ge_var (pv 0)) (fun _ _ => rfl))))))
abbrev s__law_reach : Stmt := top 32
theorem sc__law_reach : FnScope ["_law_layers", "_law_reach_here", "_law_layer"] ["_law_layers"] (defScope s__law_reach) := ⟨rfl, rfl, rfl, by decide +kernel, rfl, by decide +kernel, by decide +kernel⟩
structure D__law_reach (P : Program) (w : World) (K : PySem.W.Frag) (mg : Str → Option Value) (base : Heap) (ct : Ct) : Prop where
  u_ : True
def b__law_reach_0 : En → M Fl := sAsg (xBin (opMulX false) (xC (.int 2)) (xVar 1)) (.nm 1)
def l__law_reach_0 : En → M Fl := sFor (itR1 (xCall opMin2 (aCons (xVar 0) (aCons (xC (.int 10)) (aNil))))) (.nm 2) b__law_reach_0
def c__law_reach : En → M Fl := sSeq (sAsg (xC (.int 1)) (.nm 1)) (sSeq (l__law_reach_0) (sRet (xVar 1)))
def f__law_reach : List D → Rp := runP c__law_reach 3
theorem F__law_reach (a0 : D) : f__law_reach [a0] = kP (c__law_reach [some a0, none, none] []) := rfl
theorem d__law_reach (F : ∃ fa fd, mg "_law_reach" = some (.ref fa) ∧ FunG K "_law_reach" s__law_reach fa fd) (B : Bt K mg ct) (T : Xt K mg ct ne) (D : D__law_reach P w K mg base ct) : Dp' P w K mg base 2 "_law_reach" ["_law_layers"] (spP K ct 1 f__law_reach) := by
  obtain ⟨fa, fd, hm, F⟩ := F
  have nd := sc__law_reach.nd
  refine ⟨fa, fd, hm, F.kp, F.bindsN (fun _ _ _ _ _ _ us hl => match us, hl with | [_], _ => rfl), def_P (k := 1) F sc__law_reach rfl fun cdv A outer s H E hr => ?_⟩
  have tk := takes_of (X := cxG P w K mg base ["_law_layers", "_law_reach_here", "_law_layer"] "_law_reach" s__law_reach fa cdv A outer s H E) rfl rfl rfl rfl
  have hp : PassesOwn (model P w) _ _ (cxG P w K mg base ["_law_layers", "_law_reach_here", "_law_layer"] "_law_reach" s__law_reach fa cdv A outer s H E).xe := passes_of rfl
  exact (gs_cons (gs_asg (t := .nm 1) (ps_set nd rfl (by first | exact .inl rfl | exact .inr rfl) ge_int)) (gs_cons (gs_for (it := itR1 (xCall opMin2 (aCons (xVar 0) (aCons (xC (.int 10)) (aNil))))) (b := b__law_reach_0) (t := .nm 2) hp rfl (gi_r1 rfl B.range (ge_callB (call_min2 rfl) cd_min2 rfl B.min (by decide +kernel) (ga_cons (ge_var (pv 0)) (ga_cons ge_int ga_nil)))) (pg_name (i := 2) nd rfl (by first | exact .inl rfl | exact .inr rfl)) (gs_one (gs_asg (t := .nm 1) (ps_set nd rfl (by first | exact .inl rfl | exact .inr rfl) (ge_op op_mulX (od_mulX false) ge_int (ge_var (pv 1))))))) (gs_one (gs_ret (ge_var (pv 1))))))
abbrev s__law_is_net : Stmt := top 33
theorem sc__law_is_net : FnScope ["_law_net", "_law_lines", "_law_layer", "_law_last", "_law_joint"] ["_law_net", "_law_lines"] (defScope s__law_is_net) := ⟨rfl, rfl, rfl, by decide +kernel, rfl, by decide +kernel, by decide +kernel⟩
structure D__law_is_net (P : Program) (w : World) (K : PySem.W.Frag) (mg : Str → Option Value) (base : Heap) (ct : Ct) : Prop where
  _law_whole : Dp' P w K mg base 2 "_law_whole" ["_law_found"] (spP K ct 1 f__law_whole)
  u_ : True
def c__law_is_net : En → M Fl := sSeq (sIf (bNot (bVal (xUn (opIs .list) (xVar 0)))) (sRet (xC (.bl false))) (sSkip)) (sSeq (sFor (itSeq (xVar 0)) (.nm 2) (sSeq (sIf (bOr (bNot (bVal (xUn (opIs .list) (xVar 2)))) (bVal (xBin (opEq true) (xVar 2) (xLst false (aNil))))) (sRet (xC (.bl false))) (sSkip)) (sSeq (sAsg (xC (.int 0)) (.nm 3)) (sFor (itSeq (xVar 2)) (.nm 4) (sSeq (sIf (bOr (bNot (bVal (xUn (opIs .tuple) (xVar 4)))) (bOr (bVal (xBin (opEq false) (xCall opLen (aCons (xVar 4) (aNil))) (xC (.int 2)))) (bOr (bNot (bVal (xCallP f__law_whole (aCons (xBin opIx (xVar 4) (xC (.int 0))) (aNil))))) (bNot (bVal (xCallP f__law_whole (aCons (xBin opIx (xVar 4) (xC (.int 1))) (aNil)))))))) (sRet (xC (.bl false))) (sSkip)) (sSeq (sIf (bOr (bNot (bVal (xChain3 opLe opLt opLt (xC (.int 0)) (xBin opIx (xVar 4) (xC (.int 0))) (xBin opIx (xVar 4) (xC (.int 1))) (xVar 1)))) (bVal (xBin opLe (xBin opIx (xVar 4) (xC (.int 1))) (xVar 3)))) (sRet (xC (.bl false))) (sSkip)) (sAsg (xBin opIx (xVar 4) (xC (.int 1))) (.nm 3)))))))) (sRet (xC (.bl true))))
def f__law_is_net : List D → Rp := runP c__law_is_net 5
theorem F__law_is_net (a0 a1 : D) : f__law_is_net [a0, a1] = kP (c__law_is_net [some a0, some a1, none, none, none] []) := rfl
theorem d__law_is_net (F : ∃ fa fd, mg "_law_is_net" = some (.ref fa) ∧ FunG K "_law_is_net" s__law_is_net fa fd) (B : Bt K mg ct) (T : Xt K mg ct ne) (D : D__law_is_net P w K mg base ct) : Dp' P w K mg base 3 "_law_is_net" ["_law_net", "_law_lines"] (spP K ct 2 f__law_is_net) := by
  obtain ⟨fa, fd, hm, F⟩ := F
  have nd := sc__law_is_net.nd
  refine ⟨fa, fd, hm, F.kp, F.bindsN (fun _ _ _ _ _ _ us hl => match us, hl with | [_, _], _ => rfl), def_P (k := 2) F sc__law_is_net rfl fun cdv A outer s H E hr => ?_⟩
  have tk := takes_of (X := cxG P w K mg base ["_law_net", "_law_lines", "_law_layer", "_law_last", "_law_joint"] "_law_is_net" s__law_is_net fa cdv A outer s H E) rfl rfl rfl rfl
  have hp : PassesOwn (model P w) _ _ (cxG P w K mg base ["_law_net", "_law_lines", "_law_layer", "_law_last", "_law_joint"] "_law_is_net" s__law_is_net fa cdv A outer s H E).xe := passes_of rfl
  exact (gs_cons (gs_if (gt_not (gt_val (ge_isi (T := .list) rfl B.isinstance rfl B.list (by decide +kernel) (ge_var (pv 0))))) (gs_one (gs_ret ge_bl)) gs_nil) (gs_cons (gs_for (t := .nm 2) hp rfl (gi_seq (ge_var (pv 0))) (pg_name (i := 2) nd rfl (by first | exact .inl rfl | exact .inr rfl)) (gs_cons (gs_if (PW.pt (gw_or (gt_not (gt_val (ge_isi (T := .list) rfl B.isinstance rfl B.list (by decide +kernel) (ge_var (pv 2))))) (gw_or1 (gt_cmp (op_eqD hr.units) od_eq (ge_var (pv 2)) (ge_lst false ga_nil) (nomark _))))) (gs_one (gs_ret ge_bl)) gs_nil) (gs_cons (gs_asg (t := .nm 3) (ps_set nd rfl (by first | exact .inl rfl | exact .inr rfl) ge_int)) (gs_one (gs_for (t := .nm 4) hp rfl (gi_seq (ge_var (pv 2))) (pg_name (i := 4) nd rfl (by first | exact .inl rfl | exact .inr rfl)) (gs_cons (gs_if (PW.pt (gw_or (gt_not (gt_val (ge_isi (T := .tuple) rfl B.isinstance rfl B.tuple (by decide +kernel) (ge_var (pv 4))))) (gw_or (gt_cmp (op_neD hr.units) od_ne (ge_callB call_len cd_len rfl B.len PySem.boot_len (ga_cons (ge_var (pv 4)) ga_nil)) ge_int (nomark _)) (gw_or (gt_not (gt_val (gc_P D._law_whole hr (by decide) tk rfl (an_cons an_nil) (ga_cons (ge_ix ix_seq od_ix (ge_var (pv 4)) ge_int (fun _ _ => rfl)) ga_nil)))) (gw_or1 (gt_not (gt_val (gc_P D._law_whole hr (by decide) tk rfl (an_cons an_nil) (ga_cons (ge_ix ix_seq od_ix (ge_var (pv 4)) ge_int (fun _ _ => rfl)) ga_nil))))))))) (gs_one (gs_ret ge_bl)) gs_nil) (gs_cons (gs_if (PW.pt (gw_or (gt_not (gt_chain3 op_le od_le op_lt od_lt op_lt od_lt ge_int (ge_ix ix_seq od_ix (ge_var (pv 4)) ge_int (fun _ _ => rfl)) (ge_ix ix_seq od_ix (ge_var (pv 4)) ge_int (fun _ _ => rfl)) (ge_var (pv 1)))) (gw_or1 (gt_cmp op_le od_le (ge_ix ix_seq od_ix (ge_var (pv 4)) ge_int (fun _ _ => rfl)) (ge_var (pv 3)) (nomark _))))) (gs_one (gs_ret ge_bl)) gs_nil) (gs_one (gs_asg (t := .nm 3) (ps_set nd rfl (by first | exact .inl rfl | exact .inr rfl) (ge_ix ix_seq od_ix (ge_var (pv 4)) ge_int (fun _ _ => rfl)))))))))))) (gs_one (gs_ret ge_bl))))
abbrev s__law_parts : Stmt := top 34
theorem sc__law_parts : FnScope ["_law_first", "_law_middle", "_law_behind", "_law_layers", "_law_found", "_law_low", "_law_high", "_law_part", "_law_layer", "_law_joint"] ["_law_first", "_law_middle", "_law_behind", "_law_layers"] (defScope s__law_parts) := ⟨rfl, rfl, rfl, by decide +kernel, rfl, by decide +kernel, by decide +kernel⟩
structure D__law_parts (P : Program) (w : World) (K : PySem.W.Frag) (mg : Str → Option Value) (base : Heap) (ct : Ct) : Prop where
  u_ : True
def c__law_parts : En → M Fl := sSeq (sAsg (xLst true (aNil)) (.nm 4)) (sSeq (sFor (itSeq (xLst false (aCons (xTup (aCons (xVar 0) (aCons (xVar 1) (aNil)))) (aCons (xTup (aCons (xVar 1) (aCons (xVar 2) (aNil)))) (aNil))))) (.tp [5, 6]) (sSeq (sAsg (xLcN true (itSeq (xVar 3)) [8] (.nm 8) (bYes) (xLcN false (itSeq (xVar 8)) [9] (.nm 9) (bVal (xChain opLe opLt (xVar 5) (xBin opIx (xVar 9) (xC (.int 1))) (xVar 6))) (xVar 9))) (.nm 7)) (sSeq (sWhile (bAnd (bVal (xBin (opEq false) (xVar 7) (xLst false (aNil)))) (bVal (xBin (opEq true) (xBin opIx (xVar 7) (xUn opNeg (xC (.int 1)))) (xLst false (aNil))))) (sDrop (xPop (xVar 7))) 82) (sDrop (xApp (xVar 4) (xTup (aCons (xVar 5) (aCons (xVar 6) (aCons (xVar 7) (aNil)))))))))) (sRet (xVar 4)))
def f__law_parts : List D → Rp := runP c__law_parts 10
theorem F__law_parts (a0 a1 a2 a3 : D) : f__law_parts [a0, a1, a2, a3] = kP (c__law_parts [some a0, some a1, some a2, some a3, none, none, none, none, none, none] []) := rfl
theorem d__law_parts (F : ∃ fa fd, mg "_law_parts" = some (.ref fa) ∧ FunG K "_law_parts" s__law_parts fa fd) (B : Bt K mg ct) (T : Xt K mg ct ne) (D : D__law_parts P w K mg base ct) : Dp' P w K mg base 2 "_law_parts" ["_law_first", "_law_middle", "_law_behind", "_law_layers"] (spP K ct 4 f__law_parts) := by
  obtain ⟨fa, fd, hm, F⟩ := F
  have nd := sc__law_parts.nd
  refine ⟨fa, fd, hm, F.kp, F.bindsN (fun _ _ _ _ _ _ us hl => match us, hl with | [_, _, _, _], _ => rfl), def_P (k := 1) F sc__law_parts rfl fun cdv A outer s H E hr => ?_⟩
  have tk := takes_of (X := cxG P w K mg base ["_law_first", "_law_middle", "_law_behind", "_law_layers", "_law_found", "_law_low", "_law_high", "_law_part", "_law_layer", "_law_joint"] "_law_parts" s__law_parts fa cdv A outer s H E) rfl rfl rfl rfl
  have hp : PassesOwn (model P w) _ _ (cxG P w K mg base ["_law_first", "_law_middle", "_law_behind", "_law_layers", "_law_found", "_law_low", "_law_high", "_law_part", "_law_layer", "_law_joint"] "_law_parts" s__law_parts fa cdv A outer s H E).xe := passes_of rfl
  exact (gs_cons (gs_asg (t := .nm 4) (ps_set nd rfl (by first | exact .inl rfl | exact .inr rfl) (ge_lst true ga_nil))) (gs_cons (gs_for (t := .tp [5, 6]) hp rfl (gi_seq (ge_lst false (ga_cons (ge_tup (ga_cons (ge_var (pv 0)) (ga_cons (ge_var (pv 1)) ga_nil))) (ga_cons (ge_tup (ga_cons (ge_var (pv 1)) (ga_cons (ge_var (pv 2)) ga_nil))) ga_nil)))) (pg_tup rfl (pgs_cons (pg_name (i := 5) nd rfl (by first | exact .inl rfl | exact .inr rfl)) (pgs_cons (pg_name (i := 6) nd rfl (by first | exact .inl rfl | exact .inr rfl)) pgs_nil))) (gs_cons (gs_lc (own := [("_law_layer", 8)]) (t := .nm 8) (i := 7) (c := true) (by decide) (ps_setLc rfl nd rfl rfl (sw_true rfl rfl rfl (by decide +kernel)) (own := [("_law_layer", 8)]) (gi_seq (ge_var (pv 3))) (blkOk_by (own := [("_law_layer", 8)]) (by kernel_rfl)) (fun _ _ _ _ _ => (pg_name (i := 8) nd rfl (by first | exact .inl rfl | exact .inr rfl))) (fun _ _ _ _ _ => gts_nil) (fun _ _ _ _ _ => (ge_lc false rfl nd (own := [("_law_joint", 9)]) (t := .nm 9) (gi_seq (ge_var (pv 8))) (blkOk_by (own := [("_law_joint", 9)]) (by kernel_rfl)) (by decide) (fun _ _ _ _ _ => (pg_name (i := 9) nd rfl (by first | exact .inl rfl | exact .inr rfl))) (fun _ _ _ _ _ => gts_one (gt_chain op_le od_le op_lt od_lt (ge_var (pv 5)) (ge_ix ix_seq od_ix (ge_var (pv 9)) ge_int (fun _ _ => rfl)) (ge_var (pv 6)))) (fun _ _ _ _ _ => (ge_var (pv 9))))))) (gs_cons (gs_while 82 hp (PW.pt (gw_and (gt_cmp (op_neD hr.units) od_ne (ge_var (pv 7)) (ge_lst false ga_nil) (nomark _)) (gw_and1 (gt_cmp (op_eqD hr.units) od_eq (ge_ix ix_seq od_ix (ge_var (pv 7)) (ge_un un_neg ud_neg ge_int) (fun _ _ => rfl)) (ge_lst false ga_nil) (nomark _))))) (gs_one (gs_drop (ge_pop (ge_var (pv 7)))))) (gs_one (gs_drop (ge_app (ge_var (pv 4)) (ge_tup (ga_cons (ge_var (pv 5)) (ga_cons (ge_var (pv 6)) (ga_cons (ge_var (pv 7)) ga_nil)))))))))) (gs_one (gs_ret (ge_var (pv 4))))))
abbrev s__law_by_rule : Stmt := top 35
theorem sc__law_by_rule : FnScope ["_law_net", "_law_lines", "_law_waiting", "_law_first", "_law_behind", "_law_layers", "_law_middle", "_law_parts_here", "_law_line"] ["_law_net", "_law_lines"] (defScope s__law_by_rule) := ⟨rfl, rfl, rfl, by decide +kernel, rfl, by decide +kernel, by decide +kernel⟩
structure D__law_by_rule (P : Program) (w : World) (K : PySem.W.Frag) (mg : Str → Option Value) (base : Heap) (ct : Ct) : Prop where
  _law_parts : Dp' P w K mg base 2 "_law_parts" ["_law_first", "_law_middle", "_law_behind", "_law_layers"] (spP K ct 4 f__law_parts)
  u_ : True
def c__law_by_rule : En → M Fl := sSeq (sAsg (xLst true (aCons (xTup (aCons (xC (.int 0)) (aCons (xVar 1) (aCons (xVar 0) (aNil))))) (aNil))) (.nm 2)) (sSeq (sWhile (bVal (xBin (opEq false) (xVar 2) (xLst false (aNil)))) (sSeq (sAsg (xPop (xVar 2)) (.tp [3, 4, 5])) (sIf (bVal (xBin (opEq true) (xBin opSub (xVar 4) (xVar 3)) (xC (.int 1)))) (sIf (bVal (xBin (opEq false) (xVar 5) (xLst false (aNil)))) (sRet (xC (.bl false))) (sSkip)) (sSeq (sIf (bOr (bVal (xBin (opEq true) (xVar 5) (xLst false (aNil)))) (bVal (xBin (opEq true) (xBin opIx (xVar 5) (xUn opNeg (xC (.int 1)))) (xLst false (aNil))))) (sRet (xC (.bl false))) (sSkip)) (sSeq (sAsg (xBin opIx (xBin opIx (xBin opIx (xVar 5) (xUn opNeg (xC (.int 1)))) (xC (.int 0))) (xC (.int 1))) (.nm 6)) (sSeq (sIf (bOr (bVal (xBin (opEq false) (xBin opIx (xVar 5) (xUn opNeg (xC (.int 1)))) (xLcN false (itR2 (xVar 6) (xVar 4)) [8] (.nm 8) (bYes) (xTup (aCons (xBin opSub (xVar 6) (xC (.int 1))) (aCons (xVar 8) (aNil))))))) (bVal (xBin opLe (xVar 6) (xVar 3)))) (sRet (xC (.bl false))) (sSkip)) (sSeq (sAsg (xCallP f__law_parts (aCons (xVar 3) (aCons (xVar 6) (aCons (xVar 4) (aCons (xSl false (xVar 5) (pNo) (pSome (xUn opNeg (xC (.int 1))))) (aNil)))))) (.nm 7)) (sSeq (sIf (bVal (xBin (opEq false) (xCall opMax2 (aCons (xCall opLen (aCons (xBin opIx (xBin opIx (xVar 7) (xC (.int 0))) (xC (.int 2))) (aNil))) (aCons (xCall opLen (aCons (xBin opIx (xBin opIx (xVar 7) (xC (.int 1))) (xC (.int 2))) (aNil))) (aNil)))) (xBin opSub (xCall opLen (aCons (xVar 5) (aNil))) (xC (.int 1))))) (sRet (xC (.bl false))) (sSkip)) (sAsg (xBin (opAdd true) (xVar 2) (xVar 7)) (.nm 2))))))))) 70) (sRet (xC (.bl true))))
def f__law_by_rule : List D → Rp := runP c__law_by_rule 9
theorem F__law_by_rule (a0 a1 : D) : f__law_by_rule [a0, a1] = kP (c__law_by_rule [some a0, some a1, none, none, none, none, none, none, none] []) := rfl
theorem d__law_by_rule (F : ∃ fa fd, mg "_law_by_rule" = some (.ref fa) ∧ FunG K "_law_by_rule" s__law_by_rule fa fd) (B : Bt K mg ct) (T : Xt K mg ct ne) (D : D__law_by_rule P w K mg base ct) : Dp' P w K mg base 3 "_law_by_rule" ["_law_net", "_law_lines"] (spP K ct 2 f__law_by_rule) := by
  obtain ⟨fa, fd, hm, F⟩ := F
  have nd := sc__law_by_rule.nd
  refine ⟨fa, fd, hm, F.kp, F.bindsN (fun _ _ _ _ _ _ us hl => match us, hl with | [_, _], _ => rfl), def_P (k := 2) F sc__law_by_rule rfl fun cdv A outer s H E hr => ?_⟩
  have tk := takes_of (X := cxG P w K mg base ["_law_net", "_law_lines", "_law_waiting", "_law_first", "_law_behind", "_law_layers", "_law_middle", "_law_parts_here", "_law_line"] "_law_by_rule" s__law_by_rule fa cdv A outer s H E) rfl rfl rfl rfl
  have hp : PassesOwn (model P w) _ _ (cxG P w K mg base ["_law_net", "_law_lines", "_law_waiting", "_law_first", "_law_behind", "_law_layers", "_law_middle", "_law_parts_here", "_law_line"] "_law_by_rule" s__law_by_rule fa cdv A outer s H E).xe := passes_of rfl
  exact (gs_cons (gs_asg (t := .nm 2) (ps_set nd rfl (by first | exact .inl rfl | exact .inr rfl) (ge_lst true (ga_cons (ge_tup (ga_cons ge_int (ga_cons (ge_var (pv 1)) (ga_cons (ge_var (pv 0)) ga_nil)))) ga_nil)))) (gs_cons (gs_while 70 hp (gt_cmp (op_neD hr.units) od_ne (ge_var (pv 2)) (ge_lst false ga_nil) (nomark _)) (gs_cons (gs_asg (t := .tp [3, 4, 5]) (ps_asg (ge_pop (ge_var (pv 2))) (pg_tup rfl (pgs_cons (pg_name (i := 3) nd rfl (by first | exact .inl rfl | exact .inr rfl)) (pgs_cons (pg_name (i := 4) nd rfl (by first | exact .inl rfl | exact .inr rfl)) (pgs_cons (pg_name (i := 5) nd rfl (by first | exact .inl rfl | exact .inr rfl)) pgs_nil)))))) (gs_one (gs_if (gt_cmp (op_eqD hr.units) od_eq (ge_op op_sub od_sub (ge_var (pv 4)) (ge_var (pv 3))) ge_int (nomark _)) (gs_one (gs_if (gt_cmp (op_neD hr.units) od_ne (ge_var (pv 5)) (ge_lst false ga_nil) (nomark _)) (gs_one (gs_ret ge_bl)) gs_nil)) (gs_cons (gs_if (PW.pt (gw_or (gt_cmp (op_eqD hr.units) od_eq (ge_var (pv 5)) (ge_lst false ga_nil) (nomark _)) (gw_or1 (gt_cmp (op_eqD hr.units) od_eq (ge_ix ix_seq od_ix (ge_var (pv 5)) (ge_un un_neg ud_neg ge_int) (fun _ _ => rfl)) (ge_lst false ga_nil) (nomark _))))) (gs_one (gs_ret ge_bl)) gs_nil) (gs_cons (gs_asg (t := .nm 6) (ps_set nd rfl (by first | exact .inl rfl | exact .inr rfl) (ge_ix ix_seq od_ix (ge_ix ix_seq od_ix (ge_ix ix_seq od_ix (ge_var (pv 5)) (ge_un un_neg ud_neg ge_int) (fun _ _ => rfl)) ge_int (fun _ _ => rfl)) ge_int (fun _ _ => rfl)))) (gs_cons (gs_if (PW.pt (gw_or (gt_cmp (op_neD hr.units) od_ne (ge_ix ix_seq od_ix (ge_var (pv 5)) (ge_un un_neg ud_neg ge_int) (fun _ _ => rfl)) (ge_lc false rfl nd (own := [("_law_line", 8)]) (t := .nm 8) (gi_r2 rfl B.range (ge_var (pv 6)) (ge_var (pv 4))) (blkOk_by (own := [("_law_line", 8)]) (by kernel_rfl)) (by decide) (fun _ _ _ _ _ => (pg_name (i := 8) nd rfl (by first | exact .inl rfl | exact .inr rfl))) (fun _ _ _ _ _ => gts_nil) (fun _ _ _ _ _ => (ge_tup (ga_cons (ge_op op_sub od_sub (ge_var (pv 6)) ge_int) (ga_cons (ge_var (pv 8)) ga_nil))))) (nomark _)) (gw_or1 (gt_cmp op_le od_le (ge_var (pv 6)) (ge_var (pv 3)) (nomark _))))) (gs_one (gs_ret ge_bl)) gs_nil) (gs_cons (gs_asg (t := .nm 7) (ps_set nd rfl (by first | exact .inl rfl | exact .inr rfl) (gc_P D._law_parts hr (by decide) tk rfl (an_cons (an_cons (an_cons (an_cons an_nil)))) (ga_cons (ge_var (pv 3)) (ga_cons (ge_var (pv 6)) (ga_cons (ge_var (pv 4)) (ga_cons (ge_sl false (ge_var (pv 5)) go_no (go_some (ge_un un_neg ud_neg ge_int))) ga_nil))))))) (gs_cons (gs_if (gt_cmp (op_neD hr.units) od_ne (ge_callB (call_max2 rfl) cd_max2 rfl B.max (by decide +kernel) (ga_cons (ge_callB call_len cd_len rfl B.len PySem.boot_len (ga_cons (ge_ix ix_seq od_ix (ge_ix ix_seq od_ix (ge_var (pv 7)) ge_int (fun _ _ => rfl)) ge_int (fun _ _ => rfl)) ga_nil)) (ga_cons (ge_callB call_len cd_len rfl B.len PySem.boot_len (ga_cons (ge_ix ix_seq od_ix (ge_ix ix_seq od_ix (ge_var (pv 7)) ge_int (fun _ _ => rfl)) ge_int (fun _ _ => rfl)) ga_nil)) ga_nil))) (ge_op op_sub od_sub (ge_callB call_len cd_len rfl B.len PySem.boot_len (ga_cons (ge_var (pv 5)) ga_nil)) ge_int) (nomark _)) (gs_one (gs_ret ge_bl)) gs_nil) (gs_one (gs_asg (t := .nm 2) (ps_set nd rfl (by first | exact .inl rfl | exact .inr rfl) (ge_op op_addA (od_add true) (ge_var (pv 2)) (ge_var (pv 7))))))))))))))) (gs_one (gs_ret ge_bl))))
abbrev s__law_rows : Stmt := top 36
theorem sc__law_rows : FnScope ["_law_net", "_law_lines", "_law_now", "_law_layer", "_law_ahead", "_law_low", "_law_high", "_law_line"] ["_law_net", "_law_lines"] (defScope s__law_rows) := ⟨rfl, rfl, rfl, by decide +kernel, rfl, by decide +kernel, by decide +kernel⟩
structure D__law_rows (P : Program) (w : World) (K : PySem.W.Frag) (mg : Str → Option Value) (base : Heap) (ct : Ct) : Prop where
  u_ : True
def c__law_rows : En → M Fl := sSeq (sAsg (xLcN true (itR1 (xVar 1)) [7] (.nm 7) (bYes) (xLst false (aCons (xVar 7) (aNil)))) (.nm 2)) (sSeq (sFor (itSeq (xVar 0)) (.nm 3) (sSeq (sAsg (xCall (opList false) (aCons (xVar 2) (aNil))) (.nm 4)) (sFor (itSeq (xVar 3)) (.tp [5, 6]) (sSeq (sIf (bVal (xBin (opEq false) (xSl false (xBin opIx (xVar 4) (xVar 5)) (pSome (xUn opNeg (xC (.int 1)))) (pNo)) (xLst false (aCons (xBin opSub (xBin opIx (xBin opIx (xVar 4) (xVar 6)) (xC (.int 0))) (xC (.int 1))) (aNil))))) (sRet (xC .non)) (sSkip)) (sSetIx (xBin (opAdd false) (xBin opIx (xVar 4) (xVar 5)) (xBin opIx (xVar 4) (xVar 6))) (xVar 2) (xVar 6)))))) (sRet (xVar 2)))
def f__law_rows : List D → Rp := runP c__law_rows 8
theorem F__law_rows (a0 a1 : D) : f__law_rows [a0, a1] = kP (c__law_rows [some a0, some a1, none, none, none, none, none, none] []) := rfl
theorem d__law_rows (F : ∃ fa fd, mg "_law_rows" = some (.ref fa) ∧ FunG K "_law_rows" s__law_rows fa fd) (B : Bt K mg ct) (T : Xt K mg ct ne) (D : D__law_rows P w K mg base ct) : Dp' P w K mg base 2 "_law_rows" ["_law_net", "_law_lines"] (spP K ct 2 f__law_rows) := by
  obtain ⟨fa, fd, hm, F⟩ := F
  have nd := sc__law_rows.nd
  refine ⟨fa, fd, hm, F.kp, F.bindsN (fun _ _ _ _ _ _ us hl => match us, hl with | [_, _], _ => rfl), def_P (k := 1) F sc__law_rows rfl fun cdv A outer s H E hr => ?_⟩
  have tk := takes_of (X := cxG P w K mg base ["_law_net", "_law_lines", "_law_now", "_law_layer", "_law_ahead", "_law_low", "_law_high", "_law_line"] "_law_rows" s__law_rows fa cdv A outer s H E) rfl rfl rfl rfl
  have hp : PassesOwn (model P w) _ _ (cxG P w K mg base ["_law_net", "_law_lines", "_law_now", "_law_layer", "_law_ahead", "_law_low", "_law_high", "_law_line"] "_law_rows" s__law_rows fa cdv A outer s H E).xe := passes_of rfl
  exact (gs_cons (gs_lc (own := [("_law_line", 7)]) (t := .nm 7) (i := 2) (c := true) (by decide) (ps_setLc rfl nd rfl rfl (sw_true rfl rfl rfl (by decide +kernel)) (own := [("_law_line", 7)]) (gi_r1 rfl B.range (ge_var (pv 1))) (blkOk_by (own := [("_law_line", 7)]) (by kernel_rfl)) (fun _ _ _ _ _ => (pg_name (i := 7) nd rfl (by first | exact .inl rfl | exact .inr rfl))) (fun _ _ _ _ _ => gts_nil) (fun _ _ _ _ _ => (ge_lst false (ga_cons (ge_var (pv 7)) ga_nil))))) (gs_cons (gs_for (t := .nm 3) hp rfl (gi_seq (ge_var (pv 0))) (pg_name (i := 3) nd rfl (by first | exact .inl rfl | exact .inr rfl)) (gs_cons (gs_asg (t := .nm 4) (ps_set nd rfl (by first | exact .inl rfl | exact .inr rfl) (ge_callTy call_list_of (cd_list false) rfl B.list (by decide +kernel) (ga_cons (ge_var (pv 2)) ga_nil)))) (gs_one (gs_for (t := .tp [5, 6]) hp rfl (gi_seq (ge_var (pv 3))) (pg_tup rfl (pgs_cons (pg_name (i := 5) nd rfl (by first | exact .inl rfl | exact .inr rfl)) (pgs_cons (pg_name (i := 6) nd rfl (by first | exact .inl rfl | exact .inr rfl)) pgs_nil))) (gs_cons (gs_if (gt_cmp (op_neD hr.units) od_ne (ge_sl false (ge_ix ix_seq od_ix (ge_var (pv 4)) (ge_var (pv 5)) (fun _ _ => rfl)) (go_some (ge_un un_neg ud_neg ge_int)) go_no) (ge_lst false (ga_cons (ge_op op_sub od_sub (ge_ix ix_seq od_ix (ge_ix ix_seq od_ix (ge_var (pv 4)) (ge_var (pv 6)) (fun _ _ => rfl)) ge_int (fun _ _ => rfl)) ge_int) ga_nil)) (nomark _)) (gs_one (gs_ret ge_non)) gs_nil) (gs_one (gs_setIx (ps_asg (ge_op op_addA (od_add false) (ge_ix ix_seq od_ix (ge_var (pv 4)) (ge_var (pv 5)) (fun _ _ => rfl)) (ge_ix ix_seq od_ix (ge_var (pv 4)) (ge_var (pv 6)) (fun _ _ => rfl))) (pg_sub (ge_var (pv 2)) (ge_var (pv 6)) set_list))))))))) (gs_one (gs_ret (ge_var (pv 2))))))
abbrev s_law : Stmt := top 37
theorem sc_law : FnScope ["_law_script", "_law_lines", "_law_layers", "_law_cell", "_law_pair", "_law_due", "_law_found", "_law_net", "_law_k", "_law_layer", "_law_line"] ["_law_script"] (defScope s_law) := ⟨rfl, rfl, rfl, by decide +kernel, rfl, by decide +kernel, by decide +kernel⟩
structure D_law (P : Program) (w : World) (K : PySem.W.Frag) (mg : Str → Option Value) (base : Heap) (ct : Ct) : Prop where
  _law_cell_at : Dp' P w K mg base 2 "_law_cell_at" ["_law_script", "_law_k"] (spP K ct 2 f__law_cell_at)
  _law_tried : Dp' P w K mg base 24 "_law_tried" ["_law_which", "_law_lines", "_law_layers"] (spP K ct 3 f__law_tried)
  _law_least : Dp' P w K mg base 2 "_law_least" ["_law_lines", "_law_layers"] (spP K ct 2 f__law_least)
  _law_reach : Dp' P w K mg base 2 "_law_reach" ["_law_layers"] (spP K ct 1 f__law_reach)
  _law_whole : Dp' P w K mg base 2 "_law_whole" ["_law_found"] (spP K ct 1 f__law_whole)
  _law_is_net : Dp' P w K mg base 3 "_law_is_net" ["_law_net", "_law_lines"] (spP K ct 2 f__law_is_net)
  _law_by_rule : Dp' P w K mg base 3 "_law_by_rule" ["_law_net", "_law_lines"] (spP K ct 2 f__law_by_rule)
  _law_rows : Dp' P w K mg base 2 "_law_rows" ["_law_net", "_law_lines"] (spP K ct 2 f__law_rows)
  u_ : True
def e_law_0 : En → M D := xCallP f__law_tried (aCons (xVar 8) (aCons (xBin opIx (xVar 4) (xC (.int 0))) (aCons (xBin opIx (xVar 4) (xC (.int 1))) (aNil))))
def m_law_0 : En → M D := xLcN false (itR1 (xC (.int 2))) [8] (.nm 8) (bYes) e_law_0
def e_law_1 : En → M D := xCall opLen (aCons (xVar 9) (aNil))
def m_law_1 : En → M D := xLcN false (itSeq (xBin opIx (xVar 7) (xC (.int 0)))) [9] (.nm 9) (bYes) e_law_1
def e_law_2 : En → M D := xUn (opRg false false) (xBin (opAdd false) (xVar 10) (xC (.int 1)))
def m_law_2 : En → M D := xLcN false (itR1 (xVar 1)) [10] (.nm 10) (bYes) e_law_2
def r_law_14 : En → M Fl := sRet (xBin (opEq true) (xCallP f__law_rows (aCons (xBin opIx (xVar 7) (xC (.int 0))) (aCons (xVar 1) (aNil)))) (m_law_2))
def r_law_13 : En → M Fl := sSeq (sIf (bNot (bVal (xCallP f__law_by_rule (aCons (xBin opIx (xVar 7) (xC (.int 0))) (aCons (xVar 1) (aNil)))))) (sRet (xC (.bl false))) (sSkip)) r_law_14
def r_law_12 : En → M Fl := sSeq (sIf (bVal (xBin (opEq false) (xCall opSum (aCons (m_law_1) (aNil))) (xVar 5))) (sRet (xC (.bl false))) (sSkip)) r_law_13
def r_law_11 : En → M Fl := sSeq (sIf (bOr (bNot (bVal (xUn (opIs .tuple) (xVar 7)))) (bOr (bNot (bVal (xCallP f__law_is_net (aCons (xBin opIx (xVar 7) (xC (.int 0))) (aCons (xVar 1) (aNil)))))) (bVal (xBin opGt (xCall opLen (aCons (xBin opIx (xVar 7) (xC (.int 0))) (aNil))) (xVar 2))))) (sRet (xC (.bl false))) (sSkip)) r_law_12
def r_law_10 : En → M Fl := sSeq (sIf (bOr (bNot (bVal (xUn (opIs .tuple) (xVar 6)))) (bOr (bNot (bVal (xCallP f__law_whole (aCons (xBin opIx (xVar 6) (xC (.int 0))) (aNil))))) (bOr (bVal (xBin (opEq false) (xBin opIx (xVar 6) (xC (.int 0))) (xVar 5))) (bVal (xBin opLt (xCallP f__law_reach (aCons (xVar 2) (aNil))) (xVar 1)))))) (sRet (xC (.bl false))) (sSkip)) r_law_11
def r_law_9 : En → M Fl := sSeq (sIf (bVal (xBin opGe (xVar 5) (xC (.int 1000000)))) (sRet (xAnd (xBin (opEq true) (xVar 6) (xTup (aCons (xC .non) (aNil)))) (xAnd (xBin (opEq true) (xVar 7) (xLst false (aCons (xC (.str (PySem.Str.ofString "none"))) (aNil)))) (xBin opLt (xCallP f__law_reach (aCons (xVar 2) (aNil))) (xVar 1))))) (sSkip)) r_law_10
def r_law_8 : En → M Fl := sSeq (sAsg (xCallP f__law_tried (aCons (xC (.int 1)) (aCons (xVar 1) (aCons (xVar 2) (aNil))))) (.nm 7)) r_law_9
def r_law_7 : En → M Fl := sSeq (sAsg (xCallP f__law_tried (aCons (xC (.int 0)) (aCons (xVar 1) (aCons (xVar 2) (aNil))))) (.nm 6)) r_law_8
def r_law_6 : En → M Fl := sSeq (sAsg (xCallP f__law_least (aCons (xVar 1) (aCons (xVar 2) (aNil)))) (.nm 5)) r_law_7
def r_law_5 : En → M Fl := sSeq (sIf (bVal (xBin (opEq true) (xBin opMod (xVar 3) (xC (.int 4))) (xC (.int 1)))) (sSeq (sAsg (xLst false (aCons (xLst false (aCons (xC (.int 0)) (aCons (xVar 2) (aNil)))) (aCons (xLst false (aCons (xC (.int 65)) (aCons (xVar 2) (aNil)))) (aCons (xLst false (aCons (xC (.bl true)) (aCons (xVar 2) (aNil)))) (aCons (xLst false (aCons (xVar 1) (aCons (xUn opNeg (xC (.int 1))) (aNil)))) (aCons (xLst false (aCons (xVar 1) (aCons (xC (.int 81)) (aNil)))) (aCons (xLst false (aCons (xVar 1) (aCons (xC .non) (aNil)))) (aCons (xLst false (aCons (xC (.str (PySem.Str.ofString "2"))) (aCons (xC (.int 3)) (aNil)))) (aNil))))))))) (.nm 4)) (sSeq (sAsg (xBin opIx (xVar 4) (xBin opMod (xBin opDiv (xVar 3) (xC (.int 4))) (xC (.int 7)))) (.nm 4)) (sRet (xBin (opEq true) (m_law_0) (xLst false (aCons (xLst false (aCons (xC (.str (PySem.Str.ofString "lines"))) (aNil))) (aCons (xLst false (aCons (xC (.str (PySem.Str.ofString "lines"))) (aNil))) (aNil)))))))) (sSkip)) r_law_6
def r_law_4 : En → M Fl := sSeq (sAsg (xCallP f__law_cell_at (aCons (xVar 0) (aCons (xC (.int 2)) (aNil)))) (.nm 3)) r_law_5
def r_law_3 : En → M Fl := sSeq (sIf (bVal (xBin (opEq true) (xBin opMod (xBin opDiv (xCallP f__law_cell_at (aCons (xVar 0) (aCons (xC (.int 1)) (aNil)))) (xC (.int 15))) (xC (.int 4))) (xC (.int 1)))) (sAsg (xBin opMod (xBin opDiv (xCallP f__law_cell_at (aCons (xVar 0) (aCons (xC (.int 1)) (aNil)))) (xC (.int 60))) (xC (.int 81))) (.nm 2)) (sSkip)) r_law_4
def r_law_2 : En → M Fl := sSeq (sAsg (xBin opMod (xCallP f__law_cell_at (aCons (xVar 0) (aCons (xC (.int 1)) (aNil)))) (xC (.int 15))) (.nm 2)) r_law_3
def r_law_1 : En → M Fl := sSeq (sIf (bVal (xBin (opEq true) (xBin opMod (xBin opDiv (xCallP f__law_cell_at (aCons (xVar 0) (aCons (xC (.int 0)) (aNil)))) (xC (.int 12))) (xC (.int 9))) (xC (.int 1)))) (sAsg (xBin (opAdd false) (xC (.int 13)) (xBin opMod (xBin opDiv (xCallP f__law_cell_at (aCons (xVar 0) (aCons (xC (.int 0)) (aNil)))) (xC (.int 108))) (xC (.int 4)))) (.nm 1)) (sSkip)) r_law_2
def c_law : En → M Fl := sSeq (sAsg (xBin (opAdd false) (xC (.int 1)) (xBin opMod (xCallP f__law_cell_at (aCons (xVar 0) (aCons (xC (.int 0)) (aNil)))) (xC (.int 12)))) (.nm 1)) r_law_1
def f_law : List D → Rp := runP c_law 11
theorem F_law (a0 : D) : f_law [a0] = kP (c_law [some a0, none, none, none, none, none, none, none, none, none, none] []) := rfl
theorem d_law {fa : Addr} {fd : FuncData} (F : FunG K "law" s_law fa fd) (B : Bt K mg ct) (T : Xt K mg ct ne) (D : D_law P w K mg base ct) : FnP P w K mg base 25 fa fd ["_law_script"] (spP K ct 1 f_law) := by
  have nd := sc_law.nd
  refine def_P (k := 24) F sc_law rfl fun cdv A outer s H E hr => ?_
  have tk := takes_of (X := cxG P w K mg base ["_law_script", "_law_lines", "_law_layers", "_law_cell", "_law_pair", "_law_due", "_law_found", "_law_net", "_law_k", "_law_layer", "_law_line"] "law" s_law fa cdv A outer s H E) rfl rfl rfl rfl
  exact (gs_cons (gs_asg (t := .nm 1) (ps_set nd rfl (by first | exact .inl rfl | exact .inr rfl) (ge_op op_addA (od_add false) ge_int (ge_op op_mod od_mod (gc_P D._law_cell_at hr (by decide) tk rfl (an_cons (an_cons an_nil)) (ga_cons (ge_var (pv 0)) (ga_cons ge_int ga_nil))) ge_int)))) (gs_cons (gs_if (gt_cmp (op_eqD hr.units) od_eq (ge_op op_mod od_mod (ge_op op_fdiv od_div (gc_P D._law_cell_at hr (by decide) tk rfl (an_cons (an_cons an_nil)) (ga_cons (ge_var (pv 0)) (ga_cons ge_int ga_nil))) ge_int) ge_int) ge_int (nomark _)) (gs_one (gs_asg (t := .nm 1) (ps_set nd rfl (by first | exact .inl rfl | exact .inr rfl) (ge_op op_addA (od_add false) ge_int (ge_op op_mod od_mod (ge_op op_fdiv od_div (gc_P D._law_cell_at hr (by decide) tk rfl (an_cons (an_cons an_nil)) (ga_cons (ge_var (pv 0)) (ga_cons ge_int ga_nil))) ge_int) ge_int))))) gs_nil) (gs_cons (gs_asg (t := .nm 2) (ps_set nd rfl (by first | exact .inl rfl | exact .inr rfl) (ge_op op_mod od_mod (gc_P D._law_cell_at hr (by decide) tk rfl (an_cons (an_cons an_nil)) (ga_cons (ge_var (pv 0)) (ga_cons ge_int ga_nil))) ge_int))) (gs_cons (gs_if (gt_cmp (op_eqD hr.units) od_eq (ge_op op_mod od_mod (ge_op op_fdiv od_div (gc_P D._law_cell_at hr (by decide) tk rfl (an_cons (an_cons an_nil)) (ga_cons (ge_var (pv 0)) (ga_cons ge_int ga_nil))) ge_int) ge_int) ge_int (nomark _)) (gs_one (gs_asg (t := .nm 2) (ps_set nd rfl (by first | exact .inl rfl | exact .inr rfl) (ge_op op_mod od_mod (ge_op op_fdiv od_div (gc_P D._law_cell_at hr (by decide) tk rfl (an_cons (an_cons an_nil)) (ga_cons (ge_var (pv 0)) (ga_cons ge_int ga_nil))) ge_int) ge_int)))) gs_nil) (gs_cons (gs_asg (t := .nm 3) (ps_set nd rfl (by first | exact .inl rfl | exact .inr rfl) (gc_P D._law_cell_at hr (by decide) tk rfl (an_cons (an_cons an_nil)) (ga_cons (ge_var (pv 0)) (ga_cons ge_int ga_nil))))) (gs_cons (gs_if (gt_cmp (op_eqD hr.units) od_eq (ge_op op_mod od_mod (ge_var (pv 3)) ge_int) ge_int (nomark _)) (gs_cons (gs_asg (t := .nm 4) (ps_set nd rfl (by first | exact .inl rfl | exact .inr rfl) (ge_lst false (ga_cons (ge_lst false (ga_cons ge_int (ga_cons (ge_var (pv 2)) ga_nil))) (ga_cons (ge_lst false (ga_cons ge_int (ga_cons (ge_var (pv 2)) ga_nil))) (ga_cons (ge_lst false (ga_cons ge_bl (ga_cons (ge_var (pv 2)) ga_nil))) (ga_cons (ge_lst false (ga_cons (ge_var (pv 1)) (ga_cons (ge_un un_neg ud_neg ge_int) ga_nil))) (ga_cons (ge_lst false (ga_cons (ge_var (pv 1)) (ga_cons ge_int ga_nil))) (ga_cons (ge_lst false (ga_cons (ge_var (pv 1)) (ga_cons ge_non ga_nil))) (ga_cons (ge_lst false (ga_cons ge_str (ga_cons ge_int ga_nil))) ga_nil)))))))))) (gs_cons (gs_asg (t := .nm 4) (ps_set nd rfl (by first | exact .inl rfl | exact .inr rfl) (ge_ix ix_seq od_ix (ge_var (pv 4)) (ge_op op_mod od_mod (ge_op op_fdiv od_div (ge_var (pv 3)) ge_int) ge_int) (fun _ _ => rfl)))) (gs_one (gs_ret (ge_cmp (op_eqD hr.units) od_eq (ge_lc false rfl nd (own := [("_law_k", 8)]) (t := .nm 8) (gi_r1 rfl B.range ge_int) (blkOk_by (own := [("_law_k", 8)]) (by kernel_rfl)) (by decide) (fun _ _ _ _ _ => (pg_name (i := 8) nd rfl (by first | exact .inl rfl | exact .inr rfl))) (fun _ _ _ _ _ => gts_nil) (fun _ _ _ _ _ => (gc_P D._law_tried hr (by decide) takes0 rfl (an_cons (an_cons (an_cons an_nil))) (ga_cons (ge_var (pv 8)) (ga_cons (ge_ix ix_seq od_ix (ge_var (pv 4)) ge_int (fun _ _ => rfl)) (ga_cons (ge_ix ix_seq od_ix (ge_var (pv 4)) ge_int (fun _ _ => rfl)) ga_nil)))))) (ge_lst false (ga_cons (ge_lst false (ga_cons ge_str ga_nil)) (ga_cons (ge_lst false (ga_cons ge_str ga_nil)) ga_nil))) (nomark _)))))) gs_nil) (gs_cons (gs_asg (t := .nm 5) (ps_set nd rfl (by first | exact .inl rfl | exact .inr rfl) (gc_P D._law_least hr (by decide) tk rfl (an_cons (an_cons an_nil)) (ga_cons (ge_var (pv 1)) (ga_cons (ge_var (pv 2)) ga_nil))))) (gs_cons (gs_asg (t := .nm 6) (ps_set nd rfl (by first | exact .inl rfl | exact .inr rfl) (gc_P D._law_tried hr (by decide) tk rfl (an_cons (an_cons (an_cons an_nil))) (ga_cons ge_int (ga_cons (ge_var (pv 1)) (ga_cons (ge_var (pv 2)) ga_nil)))))) (gs_cons (gs_asg (t := .nm 7) (ps_set nd rfl (by first | exact .inl rfl | exact .inr rfl) (gc_P D._law_tried hr (by decide) tk rfl (an_cons (an_cons (an_cons an_nil))) (ga_cons ge_int (ga_cons (ge_var (pv 1)) (ga_cons (ge_var (pv 2)) ga_nil)))))) (gs_cons (gs_if (gt_cmp op_ge od_ge (ge_var (pv 5)) ge_int (nomark _)) (gs_one (gs_ret (ge_and (ge_cmp (op_eqD hr.units) od_eq (ge_var (pv 6)) (ge_tup (ga_cons ge_non ga_nil)) (nomark _)) (ge_and (ge_cmp (op_eqD hr.units) od_eq (ge_var (pv 7)) (ge_lst false (ga_cons ge_str ga_nil)) (nomark _)) (ge_one (ge_cmp op_lt od_lt (gc_P D._law_reach hr (by decide) tk rfl (an_cons an_nil) (ga_cons (ge_var (pv 2)) ga_nil)) (ge_var (pv 1)) (nomark _))))))) gs_nil) (gs_cons (gs_if (PW.pt (gw_or (gt_not (gt_val (ge_isi (T := .tuple) rfl B.isinstance rfl B.tuple (by decide +kernel) (ge_var (pv 6))))) (gw_or (gt_not (gt_val (gc_P D._law_whole hr (by decide) tk rfl (an_cons an_nil) (ga_cons (ge_ix ix_seq od_ix (ge_var (pv 6)) ge_int (fun _ _ => rfl)) ga_nil)))) (gw_or (gt_cmp (op_neD hr.units) od_ne (ge_ix ix_seq od_ix (ge_var (pv 6)) ge_int (fun _ _ => rfl)) (ge_var (pv 5)) (nomark _)) (gw_or1 (gt_cmp op_lt od_lt (gc_P D._law_reach hr (by decide) tk rfl (an_cons an_nil) (ga_cons (ge_var (pv 2)) ga_nil)) (ge_var (pv 1)) (nomark _))))))) (gs_one (gs_ret ge_bl)) gs_nil) (gs_cons (gs_if (PW.pt (gw_or (gt_not (gt_val (ge_isi (T := .tuple) rfl B.isinstance rfl B.tuple (by decide +kernel) (ge_var (pv 7))))) (gw_or (gt_not (gt_val (gc_P D._law_is_net hr (by decide) tk rfl (an_cons (an_cons an_nil)) (ga_cons (ge_ix ix_seq od_ix (ge_var (pv 7)) ge_int (fun _ _ => rfl)) (ga_cons (ge_var (pv 1)) ga_nil))))) (gw_or1 (gt_cmp op_gt od_gt (ge_callB call_len cd_len rfl B.len PySem.boot_len (ga_cons (ge_ix ix_seq od_ix (ge_var (pv 7)) ge_int (fun _ _ => rfl)) ga_nil)) (ge_var (pv 2)) (nomark _)))))) (gs_one (gs_ret ge_bl)) gs_nil) (gs_cons (gs_if (gt_cmp (op_neD hr.units) od_ne (ge_callB (cr_sum rfl) cd_sum rfl B.sum (by decide +kernel) (ga_cons (ge_lc false rfl nd (own := [("_law_layer", 9)]) (t := .nm 9) (gi_seq (ge_ix ix_seq od_ix (ge_var (pv 7)) ge_int (fun _ _ => rfl))) (blkOk_by (own := [("_law_layer", 9)]) (by kernel_rfl)) (by decide) (fun _ _ _ _ _ => (pg_name (i := 9) nd rfl (by first | exact .inl rfl | exact .inr rfl))) (fun _ _ _ _ _ => gts_nil) (fun _ _ _ _ _ => (ge_callB call_len cd_len rfl B.len PySem.boot_len (ga_cons (ge_var (pv 9)) ga_nil)))) ga_nil)) (ge_var (pv 5)) (nomark _)) (gs_one (gs_ret ge_bl)) gs_nil) (gs_cons (gs_if (gt_not (gt_val (gc_P D._law_by_rule hr (by decide) tk rfl (an_cons (an_cons an_nil)) (ga_cons (ge_ix ix_seq od_ix (ge_var (pv 7)) ge_int (fun _ _ => rfl)) (ga_cons (ge_var (pv 1)) ga_nil))))) (gs_one (gs_ret ge_bl)) gs_nil) (gs_one (gs_ret (ge_cmp (op_eqD hr.units) od_eq (gc_P D._law_rows hr (by decide) tk rfl (an_cons (an_cons an_nil)) (ga_cons (ge_ix ix_seq od_ix (ge_var (pv 7)) ge_int (fun _ _ => rfl)) (ga_cons (ge_var (pv 1)) ga_nil))) (ge_lc false rfl nd (own := [("_law_line", 10)]) (t := .nm 10) (gi_r1 rfl B.range (ge_var (pv 1))) (blkOk_by (own := [("_law_line", 10)]) (by kernel_rfl)) (by decide) (fun _ _ _ _ _ => (pg_name (i := 10) nd rfl (by first | exact .inl rfl | exact .inr rfl))) (fun _ _ _ _ _ => gts_nil) (fun _ _ _ _ _ => (ge_listRg false rfl rfl B.list rfl B.range (ge_op op_addA (od_add false) (ge_var (pv 10)) ge_int)))) (nomark _))))))))))))))))))
end
end LK
namespace LK
open L2 G PySem PySem.Spec PyProof.Rows
/-! ### the tables, and loops gone over turn by turn -/
def fewT : List (List (Option Nat)) := [
  [none, some 0, none, none, none, none, none, none, none, none, none, none, none, none, none, none, none],
  [none, some 0, some 1, none, none, none, none, none, none, none, none, none, none, none, none, none, none],
  [none, some 0, some 1, some 2, some 4, none, none, none, none, none, none, none, none, none, none, none, none],
  [none, some 0, some 1, some 2, some 3, some 5, some 7, some 9, some 12, none, none, none, none, none, none, none, none],
  [none, some 0, some 1, some 2, some 3, some 4, some 6, some 8, some 10, some 12, some 14, some 16, some 19, some 22, some 25, some 28, some 32],
  [none, some 0, some 1, some 2, some 3, some 4, some 5, some 7, some 9, some 11, some 13, some 15, some 17, some 19, some 21, some 23, some 25],
  [none, some 0, some 1, some 2, some 3, some 4, some 5, some 6, some 8, some 10, some 12, some 14, some 16, some 18, some 20, some 22, some 24],
  [none, some 0, some 1, some 2, some 3, some 4, some 5, some 6, some 7, some 9, some 11, some 13, some 15, some 17, some 19, some 21, some 23],
  [none, some 0, some 1, some 2, some 3, some 4, some 5, some 6, some 7, some 8, some 10, some 12, some 14, some 16, some 18, some 20, some 22],
  [none, some 0, some 1, some 2, some 3, some 4, some 5, some 6, some 7, some 8, some 9, some 11, some 13, some 15, some 17, some 19, some 21],
  [none, some 0, some 1, some 2, some 3, some 4, some 5, some 6, some 7, some 8, some 9, some 10, some 12, some 14, some 16, some 18, some 20],
  [none, some 0, some 1, some 2, some 3, some 4, some 5, some 6, some 7, some 8, some 9, some 10, some 11, some 13, some 15, some 17, some 19],
  [none, some 0, some 1, some 2, some 3, some 4, some 5, some 6, some 7, some 8, some 9, some 10, some 11, some 12, some 14, some 16, some 18],
  [none, some 0, some 1, some 2, some 3, some 4, some 5, some 6, some 7, some 8, some 9, some 10, some 11, some 12, some 13, some 15, some 17],
  [none, some 0, some 1, some 2, some 3, some 4, some 5, some 6, some 7, some 8, some 9, some 10, some 11, some 12, some 13, some 14, some 16],
  [none, some 0, some 1, some 2, some 3, some 4, some 5, some 6, some 7, some 8, some 9, some 10, some 11, some 12, some 13, some 14, some 15],
  [none, some 0, some 1, some 2, some 3, some 4, some 5, some 6, some 7, some 8, some 9, some 10, some 11, some 12, some 13, some 14, some 15]]
def dueT : List (List Nat) := [
  [0, 0, 1000000, 1000000, 1000000, 1000000, 1000000, 1000000, 1000000, 1000000, 1000000, 1000000, 1000000, 1000000, 1000000, 1000000, 1000000],
  [0, 0, 1, 1000001, 1000001, 1000001, 1000001, 1000001, 1000001, 1000001, 1000001, 1000001, 1000001, 1000001, 1000001, 1000001, 1000001],
  [0, 0, 1, 2, 4, 1000002, 1000002, 1000002, 1000002, 1000002, 1000002, 1000002, 1000002, 1000002, 1000002, 1000002, 1000002],
  [0, 0, 1, 2, 3, 5, 7, 9, 12, 1000003, 1000003, 1000003, 1000003, 1000003, 1000003, 1000003, 1000003],
  [0, 0, 1, 2, 3, 4, 6, 8, 10, 12, 14, 16, 19, 22, 25, 28, 32],
  [0, 0, 1, 2, 3, 4, 5, 7, 9, 11, 13, 15, 17, 19, 21, 23, 25],
  [0, 0, 1, 2, 3, 4, 5, 6, 8, 10, 12, 14, 16, 18, 20, 22, 24],
  [0, 0, 1, 2, 3, 4, 5, 6, 7, 9, 11, 13, 15, 17, 19, 21, 23],
  [0, 0, 1, 2, 3, 4, 5, 6, 7, 8, 10, 12, 14, 16, 18, 20, 22],
  [0, 0, 1, 2, 3, 4, 5, 6, 7, 8, 9, 11, 13, 15, 17, 19, 21],
  [0, 0, 1, 2, 3, 4, 5, 6, 7, 8, 9, 10, 12, 14, 16, 18, 20],
  [0, 0, 1, 2, 3, 4, 5, 6, 7, 8, 9, 10, 11, 13, 15, 17, 19],
  [0, 0, 1, 2, 3, 4, 5, 6, 7, 8, 9, 10, 11, 12, 14, 16, 18],
  [0, 0, 1, 2, 3, 4, 5, 6, 7, 8, 9, 10, 11, 12, 13, 15, 17],
  [0, 0, 1, 2, 3, 4, 5, 6, 7, 8, 9, 10, 11, 12, 13, 14, 16],
  [0, 0, 1, 2, 3, 4, 5, 6, 7, 8, 9, 10, 11, 12, 13, 14, 15],
  [0, 0, 1, 2, 3, 4, 5, 6, 7, 8, 9, 10, 11, 12, 13, 14, 15]]
def optD : Option Nat → D
  | none => .non
  | some v => .int (v : Nat)
def due (n m : Nat) : Nat := (dueT.getD m []).getD n 0
def few (n m : Nat) : Option Nat := (fewT.getD m []).getD n none
def rowD (n k : Nat) : D := .lst (((fewT.getD k []).take (n + 1)).map optD)
def tabD (n m : Nat) : D := .lst ((List.range (m + 1)).map (rowD n))
def isI (r : Rp) (d : D) : Bool := match r with
  | .ok e => eqD e d
  | _ => false
theorem isI_eq {r : Rp} {d : D} (h : isI r d = true) : r = .ok d := by
  unfold isI at h
  split at h
  · rw [eqD_eq h]
  · cases h
/-- a loop over k, k + 1 .. : what holds ahead of each turn -/
def goK (t : Tg) (b : En → M Fl) (chk : Nat → En → Cs → Bool) : Nat → Nat → En → Cs → Bool
  | 0, k, e, cs => chk k e cs
  | r + 1, k, e, cs => chk k e cs && match tgS t (.int (k : Nat)) e with
    | some e1 => (match b e1 cs with
      | .ok (.nx e2) cs2 => goK t b chk r (k + 1) e2 cs2
      | _ => false)
    | none => false
theorem goK_ok {t : Tg} {b : En → M Fl} {chk : Nat → En → Cs → Bool} : ∀ (r k : Nat) (e : En) (cs : Cs), goK t b chk r k e cs = true → ∀ j, j ≤ r → ∃ e' cs', forGo (fun _ => true) t b ((List.range' k j).map fun i => .int (i : Nat)) e cs = .ok (.nx e') cs' ∧ chk (k + j) e' cs' = true
  | 0, k, e, cs, h, j, hj => by
    rw [show j = 0 by omega]
    exact ⟨e, cs, forGo_end rfl, h⟩
  | r + 1, k, e, cs, h, j, hj => by
    unfold goK at h
    rw [Bool.and_eq_true] at h
    obtain ⟨h1, h2⟩ := h
    cases j with
    | zero => exact ⟨e, cs, forGo_end rfl, h1⟩
    | succ j =>
      split at h2
      · rename_i e1 q1
        split at h2
        · rename_i e2 cs2 q2
          obtain ⟨e', cs', a, c⟩ := goK_ok r (k + 1) e2 cs2 h2 j (by omega)
          refine ⟨e', cs', ?_, by rw [show k + (j + 1) = k + 1 + j by omega]; exact c⟩
          rw [List.range'_succ, List.map_cons, forGo_nx rfl q1 q2]
          exact a
        · cases h2
      · cases h2
theorem for_goK {it : En → M It0} {t : Tg} {b : En → M Fl} {chk : Nat → En → Cs → Bool} {r j : Nat} {e : En} {cs : Cs} (h : goK t b chk r 0 e cs = true) (hj : j ≤ r) (hi : it e cs = .ok ⟨(List.range j).map fun i => .int (i : Nat), fun _ => true⟩ cs) : ∃ e' cs', sFor it t b e cs = .ok (.nx e') cs' ∧ chk j e' cs' = true := by
  obtain ⟨e', cs', a, c⟩ := goK_ok r 0 e cs h j hj
  rw [Nat.zero_add] at c
  rw [← List.range_eq_range'] at a
  exact ⟨e', cs', by rw [e_for, hi, kFor_ok]; exact a, c⟩
/-! ### what the law reckons -/
abbrev lRet : En → M Fl := sRet (xBin opIx (xBin opIx (xVar 2) (xUn opNeg (xC (.int 1)))) (xVar 0))
def chkL (n k : Nat) (e : En) (cs : Cs) : Bool := match k with
  | 0 => true
  | k + 1 => isI (kP (lRet e cs)) (.int (due n k : Nat))
def ckL (n : Nat) (L : D) : Bool := goK (.nm 3) b__law_least_1 (chkL n) (n + 1) 0 [some (.int (n : Nat)), some L, some (.ref 0), none, none, none, none, none, none] [[]]
theorem least_ok {n m : Nat} {L : Int} (hm : min L (n : Int) = (m : Int)) (hz : m ≤ 1000) (hn : m ≤ n) (ck : ckL n (.int L) = true) : f__law_least [.int (n : Nat), .int L] = .ok (.int (due n m : Nat)) := by
  have z : (m : Int) + 1 = ((m + 1 : Nat) : Int) := rfl
  obtain ⟨e', cs', a, c⟩ := for_goK (it := itR1 (xBin (opAdd false) (xCall opMin2 (aCons (xVar 1) (aCons (xVar 0) (aNil)))) (xC (.int 1)))) (j := m + 1) ck (by omega) (by simp -implicitDefEqProofs only [↓G.e_seq, ↓G.e_skip, ↓G.e_asg, ↓G.e_drop, ↓G.e_ret, ↓G.e_raise, ↓G.e_raiseN, ↓G.e_if, ↓G.e_val, ↓G.e_not, ↓G.e_or, ↓G.e_and, ↓G.e_xand, ↓G.e_xor, ↓G.e_xnot, ↓G.e_var, ↓G.e_c, ↓G.e_bin, ↓G.e_un, ↓G.e_chain, ↓G.e_nil, ↓G.e_cons, ↓G.e_tup, ↓G.e_lst, ↓G.e_call, ↓G.e_callM, ↓G.e_callP, ↓G.e_callO, ↓G.e_for, ↓G.e_itSeq, ↓G.e_itTup, ↓G.e_itR1, ↓G.e_itR2, G.kk_ok, G.kk_ex, G.kF_nx, G.kF_rt, G.kF_ex, G.kI_t, G.kI_f, G.kT_nm, G.kT_tp2, G.kT_ex, G.kB_bl, G.kV_some, G.kO_some, G.kFor_ok, G.nX_n, G.nX_i, G.vB_bl, G.vT_t, G.kP_rt, G.kP_nx, G.kP_ex, G.kQ_some, G.kM_rt, G.kM_nx, G.kM_ex, G.kPO_ex, G.res_bl, G.res_int, G.res_str, G.res_non, G.thr_e, G.ret_e, G.up_ok, G.up_ex, G.upO_ok, G.upO_ex, G.mkL_t, G.mkL_n, G.o_sub, G.o_lt, G.o_le, G.o_gt, G.o_ge, G.o_add, G.o_neg, G.o_isN, G.o_isNI, G.o_isNT, G.o_isNL, G.o_isNR, G.o_isNB, G.o_isNS, G.o_is, G.o_ixT, G.o_ixL, G.o_ixS, G.at_0, G.at_1, G.o_lenL, G.o_lenT, G.o_lenC, G.o_lenS, G.o_max2, G.o_min2, G.o_intB, G.o_intI, G.o_listL, G.o_listT, G.o_listC, G.o_tupL, G.o_eqIt, G.o_eqIf, G.seq_lst, G.seq_scr, G.seq_ref, G.noRL_nil, G.noRL_cons, G.noR_non, G.noR_bl, G.noR_int, G.noR_str, G.noR_dic, G.noR_scr, G.noR_tup, G.noR_lst, G.isd_int, G.isd_intb, G.isd_bool, G.isd_boolb, G.isd_tup, G.isd_lst, G.isd_ref, G.live_lst, G.tgS_nm, G.tgS_tp2, List.getElem?_cons_zero, List.getElem?_cons_succ, List.set_cons_zero, List.set_cons_succ, List.length_cons, List.length_nil, List.nil_append, List.cons_append, Bool.and_true, Bool.true_and, Bool.and_self, Bool.not_true, Bool.not_false, decide_true, decide_false, Nat.reduceAdd, Int.reduceAdd, Int.reduceSub, Int.reduceMul, Int.reduceNeg, Int.cast_ofNat_Int, Int.natCast_zero, Int.natCast_one, eq_self, Int.reduceEq, Int.reduceLT, Int.reduceLE, hm, z, o_R1 (n := m + 1) (by omega)])
  rw [F__law_least]
  have e : c__law_least [some (.int (n : Nat)), some (.int L), none, none, none, none, none, none, none] [] = lRet e' cs' := (seq_nx (e := [some (.int (n : Nat)), some (.int L), some (.ref 0), none, none, none, none, none, none]) (cs1 := [[]]) rfl).trans (seq_nx a)
  rw [e]
  exact isI_eq c
/-! ### what the program's table holds -/
abbrev tRet : En → M Fl := sRet (xVar 2)
def chkT (n k : Nat) (e : En) (cs : Cs) : Bool := isI (kP (tRet e cs)) (tabD n k)
abbrev tIni : En → M Fl := sAsg (xLst true (aCons (xBin (opAdd false) (xLst false (aCons (xC .non) (aCons (xC (.int 0)) (aNil)))) (xBin (opMulX false) (xLst false (aCons (xC .non) (aNil))) (xBin opSub (xVar 0) (xC (.int 1))))) (aNil))) (.nm 2)
def ckT (n : Nat) (L : D) : Bool := goK (.nm 3) b_table_of_0 (chkT n) n 0 [some (.int (n : Nat)), some L, some (.ref 0), none] [[rowD n 0]]
theorem table_ok {n m : Nat} {L : Int} (hm : min L (n : Int) = (m : Int)) (hz : m ≤ 1000) (hn : m ≤ n) (hi : tIni [some (.int (n : Nat)), some (.int L), none, none] [] = .ok (.nx [some (.int (n : Nat)), some (.int L), some (.ref 0), none]) [[rowD n 0]]) (ck : ckT n (.int L) = true) : f_table_of [.int (n : Nat), .int L] = .ok (tabD n m) := by
  obtain ⟨e', cs', a, c⟩ := for_goK (it := itR1 (xCall opMin2 (aCons (xVar 1) (aCons (xVar 0) (aNil))))) (j := m) ck hn (by simp -implicitDefEqProofs only [↓G.e_seq, ↓G.e_skip, ↓G.e_asg, ↓G.e_drop, ↓G.e_ret, ↓G.e_raise, ↓G.e_raiseN, ↓G.e_if, ↓G.e_val, ↓G.e_not, ↓G.e_or, ↓G.e_and, ↓G.e_xand, ↓G.e_xor, ↓G.e_xnot, ↓G.e_var, ↓G.e_c, ↓G.e_bin, ↓G.e_un, ↓G.e_chain, ↓G.e_nil, ↓G.e_cons, ↓G.e_tup, ↓G.e_lst, ↓G.e_call, ↓G.e_callM, ↓G.e_callP, ↓G.e_callO, ↓G.e_for, ↓G.e_itSeq, ↓G.e_itTup, ↓G.e_itR1, ↓G.e_itR2, G.kk_ok, G.kk_ex, G.kF_nx, G.kF_rt, G.kF_ex, G.kI_t, G.kI_f, G.kT_nm, G.kT_tp2, G.kT_ex, G.kB_bl, G.kV_some, G.kO_some, G.kFor_ok, G.nX_n, G.nX_i, G.vB_bl, G.vT_t, G.kP_rt, G.kP_nx, G.kP_ex, G.kQ_some, G.kM_rt, G.kM_nx, G.kM_ex, G.kPO_ex, G.res_bl, G.res_int, G.res_str, G.res_non, G.thr_e, G.ret_e, G.up_ok, G.up_ex, G.upO_ok, G.upO_ex, G.mkL_t, G.mkL_n, G.o_sub, G.o_lt, G.o_le, G.o_gt, G.o_ge, G.o_add, G.o_neg, G.o_isN, G.o_isNI, G.o_isNT, G.o_isNL, G.o_isNR, G.o_isNB, G.o_isNS, G.o_is, G.o_ixT, G.o_ixL, G.o_ixS, G.at_0, G.at_1, G.o_lenL, G.o_lenT, G.o_lenC, G.o_lenS, G.o_max2, G.o_min2, G.o_intB, G.o_intI, G.o_listL, G.o_listT, G.o_listC, G.o_tupL, G.o_eqIt, G.o_eqIf, G.seq_lst, G.seq_scr, G.seq_ref, G.noRL_nil, G.noRL_cons, G.noR_non, G.noR_bl, G.noR_int, G.noR_str, G.noR_dic, G.noR_scr, G.noR_tup, G.noR_lst, G.isd_int, G.isd_intb, G.isd_bool, G.isd_boolb, G.isd_tup, G.isd_lst, G.isd_ref, G.live_lst, G.tgS_nm, G.tgS_tp2, List.getElem?_cons_zero, List.getElem?_cons_succ, List.set_cons_zero, List.set_cons_succ, List.length_cons, List.length_nil, List.nil_append, List.cons_append, Bool.and_true, Bool.true_and, Bool.and_self, Bool.not_true, Bool.not_false, decide_true, decide_false, Nat.reduceAdd, Int.reduceAdd, Int.reduceSub, Int.reduceMul, Int.reduceNeg, Int.cast_ofNat_Int, Int.natCast_zero, Int.natCast_one, eq_self, Int.reduceEq, Int.reduceLT, Int.reduceLE, hm, o_R1 (n := m) (by omega)])
  rw [F_table_of]
  have e : c_table_of [some (.int (n : Nat)), some (.int L), none, none] [] = tRet e' cs' := (seq_nx hi).trans (seq_nx a)
  rw [e]
  exact isI_eq c
abbrev dRest : En → M Fl := sSeq (sAsg (xBin opIx (xCallP f_parted (aCons (xVar 0) (aCons (xBin opIx (xVar 2) (xBin opSub (xVar 1) (xC (.int 1)))) (aNil)))) (xC (.int 1))) (.nm 3)) (sRet (xCallP f_put_behind (aCons (xCallP (g_laid 17) (aCons (xVar 3) (aCons (xBin opSub (xVar 1) (xC (.int 1))) (aCons (xVar 2) (aNil))))) (aCons (xVar 3) (aCons (xCallP (g_laid 17) (aCons (xBin opSub (xVar 0) (xVar 3)) (aCons (xBin opSub (xVar 1) (xC (.int 1))) (aCons (xVar 2) (aNil))))) (aCons (xBin opSub (xVar 0) (xVar 3)) (aNil)))))))
/-- the layers asked for beyond the table make no difference -/
theorem laid_min {n m : Nat} {L : Int} (hm : min L (n : Int) = (m : Int)) : f_laid [.int (n : Nat), .int L, tabD n m] = f_laid [.int (n : Nat), .int (m : Nat), tabD n m] := by
  have g : ∀ x : Int, min x (m : Int) = (m : Int) → f_laid [.int (n : Nat), .int x, tabD n m] = if n = 1 then .ok (.lst []) else kP (dRest [some (.int (n : Nat)), some (.int (m : Nat)), some (tabD n m), none] []) := fun x hx => by
    have hl : ∀ cs, opLen [tabD n m] cs = .ok (.int ((m + 1 : Nat) : Int)) cs := fun cs => by
      show Rs.ok (D.int ((((List.range (m + 1)).map (rowD n)).length : Nat) : Int)) cs = _
      rw [List.length_map, List.length_range]
    show runP (c_laid (g_laid 17)) 4 _ = _
    by_cases q : n = 1
    · subst q
      rw [if_pos rfl, e_runP]
      rfl
    · rw [if_neg q, e_runP]
      congr 1
      have q2 : ((n : Int) = 1) ↔ False := by simp only [iff_false]; omega
      have z : ((m + 1 : Nat) : Int) - 1 = (m : Int) := by omega
      have s1 : sIf (bVal (xBin (opEq true) (xVar 0) (xC (.int 1)))) (sRet (xLst false (aNil))) (sSkip) [some (.int (n : Nat)), some (.int x), some (tabD n m), none] [] = .ok (.nx [some (.int (n : Nat)), some (.int x), some (tabD n m), none]) [] := by simp -implicitDefEqProofs only [↓G.e_seq, ↓G.e_skip, ↓G.e_asg, ↓G.e_drop, ↓G.e_ret, ↓G.e_raise, ↓G.e_raiseN, ↓G.e_if, ↓G.e_val, ↓G.e_not, ↓G.e_or, ↓G.e_and, ↓G.e_xand, ↓G.e_xor, ↓G.e_xnot, ↓G.e_var, ↓G.e_c, ↓G.e_bin, ↓G.e_un, ↓G.e_chain, ↓G.e_nil, ↓G.e_cons, ↓G.e_tup, ↓G.e_lst, ↓G.e_call, ↓G.e_callM, ↓G.e_callP, ↓G.e_callO, ↓G.e_for, ↓G.e_itSeq, ↓G.e_itTup, ↓G.e_itR1, ↓G.e_itR2, G.kk_ok, G.kk_ex, G.kF_nx, G.kF_rt, G.kF_ex, G.kI_t, G.kI_f, G.kT_nm, G.kT_tp2, G.kT_ex, G.kB_bl, G.kV_some, G.kO_some, G.kFor_ok, G.nX_n, G.nX_i, G.vB_bl, G.vT_t, G.kP_rt, G.kP_nx, G.kP_ex, G.kQ_some, G.kM_rt, G.kM_nx, G.kM_ex, G.kPO_ex, G.res_bl, G.res_int, G.res_str, G.res_non, G.thr_e, G.ret_e, G.up_ok, G.up_ex, G.upO_ok, G.upO_ex, G.mkL_t, G.mkL_n, G.o_sub, G.o_lt, G.o_le, G.o_gt, G.o_ge, G.o_add, G.o_neg, G.o_isN, G.o_isNI, G.o_isNT, G.o_isNL, G.o_isNR, G.o_isNB, G.o_isNS, G.o_is, G.o_ixT, G.o_ixL, G.o_ixS, G.at_0, G.at_1, G.o_lenL, G.o_lenT, G.o_lenC, G.o_lenS, G.o_max2, G.o_min2, G.o_intB, G.o_intI, G.o_listL, G.o_listT, G.o_listC, G.o_tupL, G.o_eqIt, G.o_eqIf, G.seq_lst, G.seq_scr, G.seq_ref, G.noRL_nil, G.noRL_cons, G.noR_non, G.noR_bl, G.noR_int, G.noR_str, G.noR_dic, G.noR_scr, G.noR_tup, G.noR_lst, G.isd_int, G.isd_intb, G.isd_bool, G.isd_boolb, G.isd_tup, G.isd_lst, G.isd_ref, G.live_lst, G.tgS_nm, G.tgS_tp2, List.getElem?_cons_zero, List.getElem?_cons_succ, List.set_cons_zero, List.set_cons_succ, List.length_cons, List.length_nil, List.nil_append, List.cons_append, Bool.and_true, Bool.true_and, Bool.and_self, Bool.not_true, Bool.not_false, decide_true, decide_false, Nat.reduceAdd, Int.reduceAdd, Int.reduceSub, Int.reduceMul, Int.reduceNeg, Int.cast_ofNat_Int, Int.natCast_zero, Int.natCast_one, eq_self, Int.reduceEq, Int.reduceLT, Int.reduceLE, q2]
      have s2 : sAsg (xCall opMin2 (aCons (xVar 1) (aCons (xBin opSub (xCall opLen (aCons (xVar 2) (aNil))) (xC (.int 1))) (aNil)))) (.nm 1) [some (.int (n : Nat)), some (.int x), some (tabD n m), none] [] = .ok (.nx [some (.int (n : Nat)), some (.int (m : Nat)), some (tabD n m), none]) [] := by simp -implicitDefEqProofs only [↓G.e_seq, ↓G.e_skip, ↓G.e_asg, ↓G.e_drop, ↓G.e_ret, ↓G.e_raise, ↓G.e_raiseN, ↓G.e_if, ↓G.e_val, ↓G.e_not, ↓G.e_or, ↓G.e_and, ↓G.e_xand, ↓G.e_xor, ↓G.e_xnot, ↓G.e_var, ↓G.e_c, ↓G.e_bin, ↓G.e_un, ↓G.e_chain, ↓G.e_nil, ↓G.e_cons, ↓G.e_tup, ↓G.e_lst, ↓G.e_call, ↓G.e_callM, ↓G.e_callP, ↓G.e_callO, ↓G.e_for, ↓G.e_itSeq, ↓G.e_itTup, ↓G.e_itR1, ↓G.e_itR2, G.kk_ok, G.kk_ex, G.kF_nx, G.kF_rt, G.kF_ex, G.kI_t, G.kI_f, G.kT_nm, G.kT_tp2, G.kT_ex, G.kB_bl, G.kV_some, G.kO_some, G.kFor_ok, G.nX_n, G.nX_i, G.vB_bl, G.vT_t, G.kP_rt, G.kP_nx, G.kP_ex, G.kQ_some, G.kM_rt, G.kM_nx, G.kM_ex, G.kPO_ex, G.res_bl, G.res_int, G.res_str, G.res_non, G.thr_e, G.ret_e, G.up_ok, G.up_ex, G.upO_ok, G.upO_ex, G.mkL_t, G.mkL_n, G.o_sub, G.o_lt, G.o_le, G.o_gt, G.o_ge, G.o_add, G.o_neg, G.o_isN, G.o_isNI, G.o_isNT, G.o_isNL, G.o_isNR, G.o_isNB, G.o_isNS, G.o_is, G.o_ixT, G.o_ixL, G.o_ixS, G.at_0, G.at_1, G.o_lenL, G.o_lenT, G.o_lenC, G.o_lenS, G.o_max2, G.o_min2, G.o_intB, G.o_intI, G.o_listL, G.o_listT, G.o_listC, G.o_tupL, G.o_eqIt, G.o_eqIf, G.seq_lst, G.seq_scr, G.seq_ref, G.noRL_nil, G.noRL_cons, G.noR_non, G.noR_bl, G.noR_int, G.noR_str, G.noR_dic, G.noR_scr, G.noR_tup, G.noR_lst, G.isd_int, G.isd_intb, G.isd_bool, G.isd_boolb, G.isd_tup, G.isd_lst, G.isd_ref, G.live_lst, G.tgS_nm, G.tgS_tp2, List.getElem?_cons_zero, List.getElem?_cons_succ, List.set_cons_zero, List.set_cons_succ, List.length_cons, List.length_nil, List.nil_append, List.cons_append, Bool.and_true, Bool.true_and, Bool.and_self, Bool.not_true, Bool.not_false, decide_true, decide_false, Nat.reduceAdd, Int.reduceAdd, Int.reduceSub, Int.reduceMul, Int.reduceNeg, Int.cast_ofNat_Int, Int.natCast_zero, Int.natCast_one, eq_self, Int.reduceEq, Int.reduceLT, Int.reduceLE, hl, z, hx]
      exact (seq_nx s1).trans (seq_nx s2)
  rw [g L (by omega), g (m : Int) (by omega)]
/-! ### the net is as the law asks -/
def rtT (r : Rs Fl) : Bool := match r with
  | .ok (.rt (.bl true)) _ => true
  | _ => false
theorem rtT_ok {r : Rs Fl} (h : rtT r = true) : ∃ cs, r = .ok (.rt (.bl true)) cs := by
  unfold rtT at h
  split at h
  · exact ⟨_, rfl⟩
  · cases h
def ckN (n m : Nat) (a c f L : D) : Bool := match f_laid [.int (n : Nat), .int (m : Nat), tabD n m] with
  | .ok (.lst ls) => noRL ls && (decide (ls.length ≤ m) && (isT (f__law_is_net [.lst ls, .int (n : Nat)]) && rtT (r_law_12 [some a, some (.int (n : Nat)), some L, some c, none, some (.int (due n m : Nat)), some f, some (.tup [.lst ls]), none, none, none] [])))
  | _ => false
theorem ckN_ok {n m : Nat} {a c f L : D} (h : ckN n m a c f L = true) : ∃ ls, f_laid [.int (n : Nat), .int (m : Nat), tabD n m] = .ok (.lst ls) ∧ noRL ls = true ∧ ls.length ≤ m ∧ f__law_is_net [.lst ls, .int (n : Nat)] = .ok (.bl true) ∧ ∃ cs, r_law_12 [some a, some (.int (n : Nat)), some L, some c, none, some (.int (due n m : Nat)), some f, some (.tup [.lst ls]), none, none, none] [] = .ok (.rt (.bl true)) cs := by
  unfold ckN at h
  split at h
  · rename_i ls e
    rw [Bool.and_eq_true, Bool.and_eq_true, Bool.and_eq_true, decide_eq_true_eq] at h
    obtain ⟨h1, h2, h3, h4⟩ := h
    exact ⟨ls, e, h1, h2, isT_eq h3, rtT_ok h4⟩
  · cases h
def ckAll (n m : Nat) (a c L : D) : Bool := match few n m with
  | none => decide (1000000 ≤ due n m) && decide (2 ^ m < n)
  | some v => decide (due n m = v) && (decide (v < 1000000) && (decide (n ≤ 2 ^ m) && ckN n m a c (.tup [.int (v : Nat)]) L))
end LK
namespace LK
open L2 G PySem PySem.Spec PyProof.Rows
structure Ck (n : Nat) : Prop where
  l : ∀ L : D, ckL n L = true
  t : ∀ L : D, ckT n L = true
  i : ∀ L : D, tIni [some (.int (n : Nat)), some L, none, none] [] = .ok (.nx [some (.int (n : Nat)), some L, some (.ref 0), none]) [[rowD n 0]]
  a : ∀ m, m ≤ n → ∀ a c L : D, ckAll n m a c L = true
theorem all_m {n : Nat} {p : Nat → D → D → D → Bool} (h : ∀ a c L : D, (List.range (n + 1)).all (fun m => p m a c L) = true) : ∀ m, m ≤ n → ∀ a c L : D, p m a c L = true := fun m hm a c L => List.all_eq_true.mp (h a c L) m (List.mem_range.mpr (by omega))
theorem kl1 (L : D) : ckL 1 L = true := by kernel_rfl
theorem kt1 (L : D) : ckT 1 L = true := by kernel_rfl
theorem ka1 (a c L : D) : (List.range (1 + 1)).all (fun m => ckAll 1 m a c L) = true := by kernel_rfl
theorem ck1 : Ck 1 := ⟨kl1, kt1, fun L => by rfl, all_m ka1⟩
theorem kl2 (L : D) : ckL 2 L = true := by kernel_rfl
theorem kt2 (L : D) : ckT 2 L = true := by kernel_rfl
theorem ka2 (a c L : D) : (List.range (2 + 1)).all (fun m => ckAll 2 m a c L) = true := by kernel_rfl
theorem ck2 : Ck 2 := ⟨kl2, kt2, fun L => by rfl, all_m ka2⟩
theorem kl3 (L : D) : ckL 3 L = true := by kernel_rfl
theorem kt3 (L : D) : ckT 3 L = true := by kernel_rfl
theorem ka3 (a c L : D) : (List.range (3 + 1)).all (fun m => ckAll 3 m a c L) = true := by kernel_rfl
theorem ck3 : Ck 3 := ⟨kl3, kt3, fun L => by rfl, all_m ka3⟩
theorem kl4 (L : D) : ckL 4 L = true := by kernel_rfl
theorem kt4 (L : D) : ckT 4 L = true := by kernel_rfl
theorem ka4 (a c L : D) : (List.range (4 + 1)).all (fun m => ckAll 4 m a c L) = true := by kernel_rfl
theorem ck4 : Ck 4 := ⟨kl4, kt4, fun L => by rfl, all_m ka4⟩
theorem kl5 (L : D) : ckL 5 L = true := by kernel_rfl
theorem kt5 (L : D) : ckT 5 L = true := by kernel_rfl
theorem ka5 (a c L : D) : (List.range (5 + 1)).all (fun m => ckAll 5 m a c L) = true := by kernel_rfl
theorem ck5 : Ck 5 := ⟨kl5, kt5, fun L => by rfl, all_m ka5⟩
theorem kl6 (L : D) : ckL 6 L = true := by kernel_rfl
theorem kt6 (L : D) : ckT 6 L = true := by kernel_rfl
theorem ka6 (a c L : D) : (List.range (6 + 1)).all (fun m => ckAll 6 m a c L) = true := by kernel_rfl
theorem ck6 : Ck 6 := ⟨kl6, kt6, fun L => by rfl, all_m ka6⟩
theorem kl7 (L : D) : ckL 7 L = true := by kernel_rfl
theorem kt7 (L : D) : ckT 7 L = true := by kernel_rfl
theorem ka7 (a c L : D) : (List.range (7 + 1)).all (fun m => ckAll 7 m a c L) = true := by kernel_rfl
theorem ck7 : Ck 7 := ⟨kl7, kt7, fun L => by rfl, all_m ka7⟩
theorem kl8 (L : D) : ckL 8 L = true := by kernel_rfl
theorem kt8 (L : D) : ckT 8 L = true := by kernel_rfl
theorem ka8 (a c L : D) : (List.range (8 + 1)).all (fun m => ckAll 8 m a c L) = true := by kernel_rfl
theorem ck8 : Ck 8 := ⟨kl8, kt8, fun L => by rfl, all_m ka8⟩
theorem kl9 (L : D) : ckL 9 L = true := by kernel_rfl
theorem kt9 (L : D) : ckT 9 L = true := by kernel_rfl
theorem ka9 (a c L : D) : (List.range (9 + 1)).all (fun m => ckAll 9 m a c L) = true := by kernel_rfl
theorem ck9 : Ck 9 := ⟨kl9, kt9, fun L => by rfl, all_m ka9⟩
theorem kl10 (L : D) : ckL 10 L = true := by kernel_rfl
theorem kt10 (L : D) : ckT 10 L = true := by kernel_rfl
theorem ka10 (a c L : D) : (List.range (10 + 1)).all (fun m => ckAll 10 m a c L) = true := by kernel_rfl
theorem ck10 : Ck 10 := ⟨kl10, kt10, fun L => by rfl, all_m ka10⟩
theorem kl11 (L : D) : ckL 11 L = true := by kernel_rfl
theorem kt11 (L : D) : ckT 11 L = true := by kernel_rfl
theorem ka11 (a c L : D) : (List.range (11 + 1)).all (fun m => ckAll 11 m a c L) = true := by kernel_rfl
theorem ck11 : Ck 11 := ⟨kl11, kt11, fun L => by rfl, all_m ka11⟩
theorem kl12 (L : D) : ckL 12 L = true := by kernel_rfl
theorem kt12 (L : D) : ckT 12 L = true := by kernel_rfl
theorem ka12 (a c L : D) : (List.range (12 + 1)).all (fun m => ckAll 12 m a c L) = true := by kernel_rfl
theorem ck12 : Ck 12 := ⟨kl12, kt12, fun L => by rfl, all_m ka12⟩
theorem kl13 (L : D) : ckL 13 L = true := by kernel_rfl
theorem kt13 (L : D) : ckT 13 L = true := by kernel_rfl
theorem ka13 (a c L : D) : (List.range (13 + 1)).all (fun m => ckAll 13 m a c L) = true := by kernel_rfl
theorem ck13 : Ck 13 := ⟨kl13, kt13, fun L => by rfl, all_m ka13⟩
theorem kl14 (L : D) : ckL 14 L = true := by kernel_rfl
theorem kt14 (L : D) : ckT 14 L = true := by kernel_rfl
theorem ka14 (a c L : D) : (List.range (14 + 1)).all (fun m => ckAll 14 m a c L) = true := by kernel_rfl
theorem ck14 : Ck 14 := ⟨kl14, kt14, fun L => by rfl, all_m ka14⟩
theorem kl15 (L : D) : ckL 15 L = true := by kernel_rfl
theorem kt15 (L : D) : ckT 15 L = true := by kernel_rfl
theorem ka15 (a c L : D) : (List.range (15 + 1)).all (fun m => ckAll 15 m a c L) = true := by kernel_rfl
theorem ck15 : Ck 15 := ⟨kl15, kt15, fun L => by rfl, all_m ka15⟩
theorem kl16 (L : D) : ckL 16 L = true := by kernel_rfl
theorem kt16 (L : D) : ckT 16 L = true := by kernel_rfl
theorem ka16 (a c L : D) : (List.range (16 + 1)).all (fun m => ckAll 16 m a c L) = true := by kernel_rfl
theorem ck16 : Ck 16 := ⟨kl16, kt16, fun L => by rfl, all_m ka16⟩
theorem ckn : ∀ n : Nat, n < 16 → Ck (n + 1)
  | 0, _ => ck1
  | 1, _ => ck2
  | 2, _ => ck3
  | 3, _ => ck4
  | 4, _ => ck5
  | 5, _ => ck6
  | 6, _ => ck7
  | 7, _ => ck8
  | 8, _ => ck9
  | 9, _ => ck10
  | 10, _ => ck11
  | 11, _ => ck12
  | 12, _ => ck13
  | 13, _ => ck14
  | 14, _ => ck15
  | 15, _ => ck16
  | n + 16, h => absurd h (by omega)
end LK
namespace LK
open L2 G PySem PySem.Spec PyProof.Rows
theorem cell_at (ns : List Int) (k : Int) (hk : 0 ≤ k) : ∃ c : Int, f__law_cell_at [.scr ns, .int k] = .ok (.int c) := by
  obtain ⟨m, rfl⟩ : ∃ m : Nat, k = m := ⟨k.toNat, by omega⟩
  rw [F__law_cell_at]
  unfold c__law_cell_at
  by_cases h : m < ns.length
  · have h1 : ((m : Int) < (ns.length : Nat)) ↔ True := by simp; omega
    refine ⟨ns[m], ?_⟩
    simp -implicitDefEqProofs only [↓G.e_seq, ↓G.e_skip, ↓G.e_asg, ↓G.e_drop, ↓G.e_ret, ↓G.e_raise, ↓G.e_raiseN, ↓G.e_if, ↓G.e_val, ↓G.e_not, ↓G.e_or, ↓G.e_and, ↓G.e_xand, ↓G.e_xor, ↓G.e_xnot, ↓G.e_var, ↓G.e_c, ↓G.e_bin, ↓G.e_un, ↓G.e_chain, ↓G.e_nil, ↓G.e_cons, ↓G.e_tup, ↓G.e_lst, ↓G.e_call, ↓G.e_callM, ↓G.e_callP, ↓G.e_callO, ↓G.e_for, ↓G.e_itSeq, ↓G.e_itTup, ↓G.e_itR1, ↓G.e_itR2, G.kk_ok, G.kk_ex, G.kF_nx, G.kF_rt, G.kF_ex, G.kI_t, G.kI_f, G.kT_nm, G.kT_tp2, G.kT_ex, G.kB_bl, G.kV_some, G.kO_some, G.kFor_ok, G.nX_n, G.nX_i, G.vB_bl, G.vT_t, G.kP_rt, G.kP_nx, G.kP_ex, G.kQ_some, G.kM_rt, G.kM_nx, G.kM_ex, G.kPO_ex, G.res_bl, G.res_int, G.res_str, G.res_non, G.thr_e, G.ret_e, G.up_ok, G.up_ex, G.upO_ok, G.upO_ex, G.mkL_t, G.mkL_n, G.o_sub, G.o_lt, G.o_le, G.o_gt, G.o_ge, G.o_add, G.o_neg, G.o_isN, G.o_isNI, G.o_isNT, G.o_isNL, G.o_isNR, G.o_isNB, G.o_isNS, G.o_is, G.o_ixT, G.o_ixL, G.o_ixS, G.at_0, G.at_1, G.o_lenL, G.o_lenT, G.o_lenC, G.o_lenS, G.o_max2, G.o_min2, G.o_intB, G.o_intI, G.o_listL, G.o_listT, G.o_listC, G.o_tupL, G.o_eqIt, G.o_eqIf, G.seq_lst, G.seq_scr, G.seq_ref, G.noRL_nil, G.noRL_cons, G.noR_non, G.noR_bl, G.noR_int, G.noR_str, G.noR_dic, G.noR_scr, G.noR_tup, G.noR_lst, G.isd_int, G.isd_intb, G.isd_bool, G.isd_boolb, G.isd_tup, G.isd_lst, G.isd_ref, G.live_lst, G.tgS_nm, G.tgS_tp2, List.getElem?_cons_zero, List.getElem?_cons_succ, List.set_cons_zero, List.set_cons_succ, List.length_cons, List.length_nil, List.nil_append, List.cons_append, Bool.and_true, Bool.true_and, Bool.and_self, Bool.not_true, Bool.not_false, decide_true, decide_false, Nat.reduceAdd, Int.reduceAdd, Int.reduceSub, Int.reduceMul, Int.reduceNeg, Int.cast_ofNat_Int, Int.natCast_zero, Int.natCast_one, eq_self, Int.reduceEq, Int.reduceLT, Int.reduceLE, h1, at_k (xs := ns.map D.int) (i := (m : Nat)) (k := m) rfl (show _ = some (D.int ns[m]) by simp [h])]
  · have h1 : ((m : Int) < (ns.length : Nat)) ↔ False := by simp; omega
    exact ⟨0, by simp -implicitDefEqProofs only [↓G.e_seq, ↓G.e_skip, ↓G.e_asg, ↓G.e_drop, ↓G.e_ret, ↓G.e_raise, ↓G.e_raiseN, ↓G.e_if, ↓G.e_val, ↓G.e_not, ↓G.e_or, ↓G.e_and, ↓G.e_xand, ↓G.e_xor, ↓G.e_xnot, ↓G.e_var, ↓G.e_c, ↓G.e_bin, ↓G.e_un, ↓G.e_chain, ↓G.e_nil, ↓G.e_cons, ↓G.e_tup, ↓G.e_lst, ↓G.e_call, ↓G.e_callM, ↓G.e_callP, ↓G.e_callO, ↓G.e_for, ↓G.e_itSeq, ↓G.e_itTup, ↓G.e_itR1, ↓G.e_itR2, G.kk_ok, G.kk_ex, G.kF_nx, G.kF_rt, G.kF_ex, G.kI_t, G.kI_f, G.kT_nm, G.kT_tp2, G.kT_ex, G.kB_bl, G.kV_some, G.kO_some, G.kFor_ok, G.nX_n, G.nX_i, G.vB_bl, G.vT_t, G.kP_rt, G.kP_nx, G.kP_ex, G.kQ_some, G.kM_rt, G.kM_nx, G.kM_ex, G.kPO_ex, G.res_bl, G.res_int, G.res_str, G.res_non, G.thr_e, G.ret_e, G.up_ok, G.up_ex, G.upO_ok, G.upO_ex, G.mkL_t, G.mkL_n, G.o_sub, G.o_lt, G.o_le, G.o_gt, G.o_ge, G.o_add, G.o_neg, G.o_isN, G.o_isNI, G.o_isNT, G.o_isNL, G.o_isNR, G.o_isNB, G.o_isNS, G.o_is, G.o_ixT, G.o_ixL, G.o_ixS, G.at_0, G.at_1, G.o_lenL, G.o_lenT, G.o_lenC, G.o_lenS, G.o_max2, G.o_min2, G.o_intB, G.o_intI, G.o_listL, G.o_listT, G.o_listC, G.o_tupL, G.o_eqIt, G.o_eqIf, G.seq_lst, G.seq_scr, G.seq_ref, G.noRL_nil, G.noRL_cons, G.noR_non, G.noR_bl, G.noR_int, G.noR_str, G.noR_dic, G.noR_scr, G.noR_tup, G.noR_lst, G.isd_int, G.isd_intb, G.isd_bool, G.isd_boolb, G.isd_tup, G.isd_lst, G.isd_ref, G.live_lst, G.tgS_nm, G.tgS_tp2, List.getElem?_cons_zero, List.getElem?_cons_succ, List.set_cons_zero, List.set_cons_succ, List.length_cons, List.length_nil, List.nil_append, List.cons_append, Bool.and_true, Bool.true_and, Bool.and_self, Bool.not_true, Bool.not_false, decide_true, decide_false, Nat.reduceAdd, Int.reduceAdd, Int.reduceSub, Int.reduceMul, Int.reduceNeg, Int.cast_ofNat_Int, Int.natCast_zero, Int.natCast_one, eq_self, Int.reduceEq, Int.reduceLT, Int.reduceLE, h1]⟩
/-! ### what is refused, what is wished -/
theorem wl_ck : (List.range 16).all (fun n => isI (f_need_lines [.int ((n + 1 : Nat) : Int)]) .non) = true := by kernel_rfl
theorem wa_ck : (List.range 81).all (fun n => isI (f_is_among [.int (n : Nat), .int 0, .int 80]) (.bl true)) = true := by kernel_rfl
theorem re_ck : (List.range 81).all (fun n => isI (f__law_reach [.int (n : Nat)]) (.int ((2 ^ min n 10 : Nat) : Int))) = true := by kernel_rfl
theorem wish_ok {n L : Nat} (h1 : 1 ≤ n) (h2 : n ≤ 16) (hL : L ≤ 80) : f_need_wish [.int (n : Nat), .int (L : Nat)] = .ok .non := by
  have a := isI_eq (List.all_eq_true.mp wl_ck (n - 1) (List.mem_range.mpr (by omega)))
  rw [show n - 1 + 1 = n by omega] at a
  have b := isI_eq (List.all_eq_true.mp wa_ck L (List.mem_range.mpr (by omega)))
  rw [F_need_wish]
  unfold c_need_wish
  simp -implicitDefEqProofs only [↓G.e_seq, ↓G.e_skip, ↓G.e_asg, ↓G.e_drop, ↓G.e_ret, ↓G.e_raise, ↓G.e_raiseN, ↓G.e_if, ↓G.e_val, ↓G.e_not, ↓G.e_or, ↓G.e_and, ↓G.e_xand, ↓G.e_xor, ↓G.e_xnot, ↓G.e_var, ↓G.e_c, ↓G.e_bin, ↓G.e_un, ↓G.e_chain, ↓G.e_nil, ↓G.e_cons, ↓G.e_tup, ↓G.e_lst, ↓G.e_call, ↓G.e_callM, ↓G.e_callP, ↓G.e_callO, ↓G.e_for, ↓G.e_itSeq, ↓G.e_itTup, ↓G.e_itR1, ↓G.e_itR2, G.kk_ok, G.kk_ex, G.kF_nx, G.kF_rt, G.kF_ex, G.kI_t, G.kI_f, G.kT_nm, G.kT_tp2, G.kT_ex, G.kB_bl, G.kV_some, G.kO_some, G.kFor_ok, G.nX_n, G.nX_i, G.vB_bl, G.vT_t, G.kP_rt, G.kP_nx, G.kP_ex, G.kQ_some, G.kM_rt, G.kM_nx, G.kM_ex, G.kPO_ex, G.res_bl, G.res_int, G.res_str, G.res_non, G.thr_e, G.ret_e, G.up_ok, G.up_ex, G.upO_ok, G.upO_ex, G.mkL_t, G.mkL_n, G.o_sub, G.o_lt, G.o_le, G.o_gt, G.o_ge, G.o_add, G.o_neg, G.o_isN, G.o_isNI, G.o_isNT, G.o_isNL, G.o_isNR, G.o_isNB, G.o_isNS, G.o_is, G.o_ixT, G.o_ixL, G.o_ixS, G.at_0, G.at_1, G.o_lenL, G.o_lenT, G.o_lenC, G.o_lenS, G.o_max2, G.o_min2, G.o_intB, G.o_intI, G.o_listL, G.o_listT, G.o_listC, G.o_tupL, G.o_eqIt, G.o_eqIf, G.seq_lst, G.seq_scr, G.seq_ref, G.noRL_nil, G.noRL_cons, G.noR_non, G.noR_bl, G.noR_int, G.noR_str, G.noR_dic, G.noR_scr, G.noR_tup, G.noR_lst, G.isd_int, G.isd_intb, G.isd_bool, G.isd_boolb, G.isd_tup, G.isd_lst, G.isd_ref, G.live_lst, G.tgS_nm, G.tgS_tp2, List.getElem?_cons_zero, List.getElem?_cons_succ, List.set_cons_zero, List.set_cons_succ, List.length_cons, List.length_nil, List.nil_append, List.cons_append, Bool.and_true, Bool.true_and, Bool.and_self, Bool.not_true, Bool.not_false, decide_true, decide_false, Nat.reduceAdd, Int.reduceAdd, Int.reduceSub, Int.reduceMul, Int.reduceNeg, Int.cast_ofNat_Int, Int.natCast_zero, Int.natCast_one, eq_self, Int.reduceEq, Int.reduceLT, Int.reduceLE, a, b]
theorem reach_ok {L : Nat} (hL : L ≤ 80) : f__law_reach [.int (L : Nat)] = .ok (.int ((2 ^ min L 10 : Nat) : Int)) := isI_eq (List.all_eq_true.mp re_ck L (List.mem_range.mpr (by omega)))
theorem reach_lt {n L : Nat} (h : n ≤ 16) : 2 ^ min L 10 < n ↔ 2 ^ min L n < n := by
  have key : ∀ n : Fin 17, ∀ L : Fin 18, (2 ^ min L.1 10 < n.1 ↔ 2 ^ min L.1 n.1 < n.1) := by decide +kernel
  by_cases q : L < 18
  · exact key ⟨n, by omega⟩ ⟨L, q⟩
  · have a := key ⟨n, by omega⟩ ⟨17, by omega⟩
    have e1 : min L 10 = min 17 10 := by omega
    have e2 : min L n = min 17 n := by omega
    rw [e1, e2]
    exact a
abbrev linesD : D := .lst [.str (PySem.Str.ofString "lines")]
theorem p0 (k : Bool) (L : Int) : f__law_tried [.int (if k then 1 else 0), .int 0, .int L] = .ok linesD := by cases k <;> kernel_rfl
theorem p1 (k : Bool) (L : Int) : f__law_tried [.int (if k then 1 else 0), .int 65, .int L] = .ok linesD := by cases k <;> kernel_rfl
theorem p2 (k : Bool) (L : Int) : f__law_tried [.int (if k then 1 else 0), .bl true, .int L] = .ok linesD := by cases k <;> kernel_rfl
theorem p6 (k : Bool) (L : Int) : f__law_tried [.int (if k then 1 else 0), .str (PySem.Str.ofString "2"), .int L] = .ok linesD := by cases k <;> kernel_rfl
theorem p3_ck : (List.range 16).all (fun n => [.int (-1), .int 81, .non].all fun d => isI (f__law_tried [.int 0, .int ((n + 1 : Nat) : Int), d]) linesD && isI (f__law_tried [.int 1, .int ((n + 1 : Nat) : Int), d]) linesD) = true := by kernel_rfl
theorem p3 {n : Nat} (h1 : 1 ≤ n) (h2 : n ≤ 16) (k : Bool) (d : D) (hd : d ∈ [.int (-1), .int 81, .non]) : f__law_tried [.int (if k then 1 else 0), .int (n : Nat), d] = .ok linesD := by
  have a := List.all_eq_true.mp (List.all_eq_true.mp p3_ck (n - 1) (List.mem_range.mpr (by omega))) d hd
  rw [show n - 1 + 1 = n by omega, Bool.and_eq_true] at a
  cases k
  · exact isI_eq a.1
  · exact isI_eq a.2
/-- both are asked -/
theorem both_ok {env : En} {x y : D} (h8 : 8 < env.length) (h4 : env[4]? = some (some (.lst [x, y]))) (nx : noR x = true) (ny : noR y = true) (h : ∀ k : Bool, f__law_tried [.int (if k then 1 else 0), x, y] = .ok linesD) : m_law_0 env [] = .ok (.lst [linesD, linesD]) [] := by
  have hi : itR1 (xC (.int 2)) env [] = .ok ⟨[D.int 0, D.int 1], fun _ => true⟩ [] := by rfl
  have one : ∀ k : Bool, e_law_0 (((wip env [8])).set 8 (some (.int (if k then 1 else 0)))) [] = .ok linesD [] := fun k => by
    have g4 : (((wip env [8])).set 8 (some (D.int (if k then 1 else 0))))[4]? = some (some (.lst [x, y])) := by
      show ((env.set 8 none).set 8 _)[4]? = _
      rw [List.getElem?_set_ne (by decide), List.getElem?_set_ne (by decide)]
      exact h4
    have g8 : (((wip env [8])).set 8 (some (D.int (if k then 1 else 0))))[8]? = some (some (D.int (if k then 1 else 0))) := by
      rw [List.getElem?_set_self (by show 8 < (env.set 8 none).length; rw [List.length_set]; exact h8)]
    have e4 := var_at (cs := []) g4
    have e8 := var_at (cs := []) g8
    unfold e_law_0
    simp only [e_callP, e_cons, e_nil, e_bin, e_c, e4, e8, kk_ok, o_ixL, at_0, at_1, kO_some]
    simp -implicitDefEqProofs only [↓G.e_seq, ↓G.e_skip, ↓G.e_asg, ↓G.e_drop, ↓G.e_ret, ↓G.e_raise, ↓G.e_raiseN, ↓G.e_if, ↓G.e_val, ↓G.e_not, ↓G.e_or, ↓G.e_and, ↓G.e_xand, ↓G.e_xor, ↓G.e_xnot, ↓G.e_var, ↓G.e_c, ↓G.e_bin, ↓G.e_un, ↓G.e_chain, ↓G.e_nil, ↓G.e_cons, ↓G.e_tup, ↓G.e_lst, ↓G.e_call, ↓G.e_callM, ↓G.e_callP, ↓G.e_callO, ↓G.e_for, ↓G.e_itSeq, ↓G.e_itTup, ↓G.e_itR1, ↓G.e_itR2, G.kk_ok, G.kk_ex, G.kF_nx, G.kF_rt, G.kF_ex, G.kI_t, G.kI_f, G.kT_nm, G.kT_tp2, G.kT_ex, G.kB_bl, G.kV_some, G.kO_some, G.kFor_ok, G.nX_n, G.nX_i, G.vB_bl, G.vT_t, G.kP_rt, G.kP_nx, G.kP_ex, G.kQ_some, G.kM_rt, G.kM_nx, G.kM_ex, G.kPO_ex, G.res_bl, G.res_int, G.res_str, G.res_non, G.thr_e, G.ret_e, G.up_ok, G.up_ex, G.upO_ok, G.upO_ex, G.mkL_t, G.mkL_n, G.o_sub, G.o_lt, G.o_le, G.o_gt, G.o_ge, G.o_add, G.o_neg, G.o_isN, G.o_isNI, G.o_isNT, G.o_isNL, G.o_isNR, G.o_isNB, G.o_isNS, G.o_is, G.o_ixT, G.o_ixL, G.o_ixS, G.at_0, G.at_1, G.o_lenL, G.o_lenT, G.o_lenC, G.o_lenS, G.o_max2, G.o_min2, G.o_intB, G.o_intI, G.o_listL, G.o_listT, G.o_listC, G.o_tupL, G.o_eqIt, G.o_eqIf, G.seq_lst, G.seq_scr, G.seq_ref, G.noRL_nil, G.noRL_cons, G.noR_non, G.noR_bl, G.noR_int, G.noR_str, G.noR_dic, G.noR_scr, G.noR_tup, G.noR_lst, G.isd_int, G.isd_intb, G.isd_bool, G.isd_boolb, G.isd_tup, G.isd_lst, G.isd_ref, G.live_lst, G.tgS_nm, G.tgS_tp2, List.getElem?_cons_zero, List.getElem?_cons_succ, List.set_cons_zero, List.set_cons_succ, List.length_cons, List.length_nil, List.nil_append, List.cons_append, Bool.and_true, Bool.true_and, Bool.and_self, Bool.not_true, Bool.not_false, decide_true, decide_false, Nat.reduceAdd, Int.reduceAdd, Int.reduceSub, Int.reduceMul, Int.reduceNeg, Int.cast_ofNat_Int, Int.natCast_zero, Int.natCast_one, eq_self, Int.reduceEq, Int.reduceLT, Int.reduceLE, nx, ny, h k]
  unfold m_law_0
  rw [lc_map (c := false) (own := [8]) (t := .nm 8) (te := e_law_0) (fun _ => linesD) hi rfl rfl fun d hd => by
    rcases List.mem_cons.mp hd with e | hd
    · exact ⟨_, rfl, by rw [e]; exact one false⟩
    · rw [List.mem_singleton.mp hd]
      exact ⟨_, rfl, one true⟩]
  rfl
/-! ### what the program tells -/
structure Fc (n m L : Nat) : Prop where
  hm : min (L : Int) (n : Int) = (m : Int)
  n1 : 1 ≤ n
  n2 : n ≤ 16
  L2 : L ≤ 80
theorem Fc.ml {n m L : Nat} (h : Fc n m L) : m ≤ n ∧ m ≤ L ∧ m = min L n := by
  have := h.hm
  omega
theorem Fc.ck {n m L : Nat} (h : Fc n m L) : Ck n := by
  have := ckn (n - 1) (by have := h.n1; have := h.n2; omega)
  rwa [show n - 1 + 1 = n by have := h.n1; omega] at this
theorem Fc.least {n m L : Nat} (h : Fc n m L) : f__law_least [.int (n : Nat), .int (L : Nat)] = .ok (.int (due n m : Nat)) := least_ok h.hm (by have := h.ml; have := h.n2; omega) h.ml.1 (h.ck.l _)
theorem Fc.table {n m L : Nat} (h : Fc n m L) : f_table_of [.int (n : Nat), .int (L : Nat)] = .ok (tabD n m) := table_ok h.hm (by have := h.ml; have := h.n2; omega) h.ml.1 (h.ck.i _) (h.ck.t _)
theorem noR_opt : ∀ l : List (Option Nat), noRL (l.map optD) = true
  | [] => rfl
  | none :: l => by
    show (true && noRL (l.map optD)) = true
    rw [noR_opt l]
    rfl
  | some v :: l => by
    show (true && noRL (l.map optD)) = true
    rw [noR_opt l]
    rfl
theorem noR_tab (n m : Nat) : noR (tabD n m) = true := by
  show noRL _ = true
  rw [noRL_all, List.all_eq_true]
  intro x hx
  obtain ⟨k, _, rfl⟩ := List.mem_map.mp hx
  exact noR_opt _
theorem few_len : fewT.all (fun r => decide (r.length = 17)) = true := by decide +kernel
theorem few_get {n m : Nat} (hn : n ≤ 16) (hm : m ≤ 16) : (((fewT.getD m []).take (n + 1)).map optD)[n]? = some (optD (few n m)) := by
  have hl : m < fewT.length := by
    show m < 17
    omega
  have e : fewT.getD m [] = fewT[m] := by
    rw [List.getD_eq_getElem?_getD, List.getElem?_eq_getElem hl]
    rfl
  have l := of_decide_eq_true (List.all_eq_true.mp few_len fewT[m] (List.getElem_mem hl))
  have hz : n < fewT[m].length := by omega
  rw [List.getElem?_map, List.getElem?_take, if_pos (by omega)]
  unfold few
  rw [e, List.getElem?_eq_getElem hz, List.getD_eq_getElem?_getD, List.getElem?_eq_getElem hz]
  rfl
theorem tab_last (n m : Nat) : atI ((List.range (m + 1)).map (rowD n)) (-1) = some (rowD n m) := at_last (by
  rw [List.range_succ, List.map_append]
  simp)
theorem optD_noR (o : Option Nat) : noR (optD o) = true := by cases o <;> rfl
theorem Fc.val {n m L : Nat} (h : Fc n m L) (cs : Cs) : opIx (rowD n m) (.int (n : Nat)) cs = .ok (optD (few n m)) cs := by
  have := h.ml
  have := h.n2
  unfold rowD
  rw [o_ixL, at_k (i := (n : Nat)) (k := n) rfl (few_get h.n2 (by omega))]
  rfl
theorem Fc.fewest {n m L : Nat} (h : Fc n m L) : f_fewest [.int (n : Nat), .int (L : Nat)] = .ok (optD (few n m)) := by
  have t : f_table_of [.int (n : Nat), .int (L : Nat)] = .ok (.lst ((List.range (m + 1)).map (rowD n))) := h.table
  rw [F_fewest]
  unfold c_fewest
  simp -implicitDefEqProofs only [↓G.e_seq, ↓G.e_skip, ↓G.e_asg, ↓G.e_drop, ↓G.e_ret, ↓G.e_raise, ↓G.e_raiseN, ↓G.e_if, ↓G.e_val, ↓G.e_not, ↓G.e_or, ↓G.e_and, ↓G.e_xand, ↓G.e_xor, ↓G.e_xnot, ↓G.e_var, ↓G.e_c, ↓G.e_bin, ↓G.e_un, ↓G.e_chain, ↓G.e_nil, ↓G.e_cons, ↓G.e_tup, ↓G.e_lst, ↓G.e_call, ↓G.e_callM, ↓G.e_callP, ↓G.e_callO, ↓G.e_for, ↓G.e_itSeq, ↓G.e_itTup, ↓G.e_itR1, ↓G.e_itR2, G.kk_ok, G.kk_ex, G.kF_nx, G.kF_rt, G.kF_ex, G.kI_t, G.kI_f, G.kT_nm, G.kT_tp2, G.kT_ex, G.kB_bl, G.kV_some, G.kO_some, G.kFor_ok, G.nX_n, G.nX_i, G.vB_bl, G.vT_t, G.kP_rt, G.kP_nx, G.kP_ex, G.kQ_some, G.kM_rt, G.kM_nx, G.kM_ex, G.kPO_ex, G.res_bl, G.res_int, G.res_str, G.res_non, G.thr_e, G.ret_e, G.up_ok, G.up_ex, G.upO_ok, G.upO_ex, G.mkL_t, G.mkL_n, G.o_sub, G.o_lt, G.o_le, G.o_gt, G.o_ge, G.o_add, G.o_neg, G.o_isN, G.o_isNI, G.o_isNT, G.o_isNL, G.o_isNR, G.o_isNB, G.o_isNS, G.o_is, G.o_ixT, G.o_ixL, G.o_ixS, G.at_0, G.at_1, G.o_lenL, G.o_lenT, G.o_lenC, G.o_lenS, G.o_max2, G.o_min2, G.o_intB, G.o_intI, G.o_listL, G.o_listT, G.o_listC, G.o_tupL, G.o_eqIt, G.o_eqIf, G.seq_lst, G.seq_scr, G.seq_ref, G.noRL_nil, G.noRL_cons, G.noR_non, G.noR_bl, G.noR_int, G.noR_str, G.noR_dic, G.noR_scr, G.noR_tup, G.noR_lst, G.isd_int, G.isd_intb, G.isd_bool, G.isd_boolb, G.isd_tup, G.isd_lst, G.isd_ref, G.live_lst, G.tgS_nm, G.tgS_tp2, List.getElem?_cons_zero, List.getElem?_cons_succ, List.set_cons_zero, List.set_cons_succ, List.length_cons, List.length_nil, List.nil_append, List.cons_append, Bool.and_true, Bool.true_and, Bool.and_self, Bool.not_true, Bool.not_false, decide_true, decide_false, Nat.reduceAdd, Int.reduceAdd, Int.reduceSub, Int.reduceMul, Int.reduceNeg, Int.cast_ofNat_Int, Int.natCast_zero, Int.natCast_one, eq_self, Int.reduceEq, Int.reduceLT, Int.reduceLE, wish_ok h.n1 h.n2 h.L2, t, tab_last, h.val, res_n [] (optD_noR (few n m))]
theorem Fc.thr_none {n m L : Nat} (h : Fc n m L) (q : few n m = none) : f_thrifty [.int (n : Nat), .int (L : Nat)] = .ex .nonet := by
  have t : f_table_of [.int (n : Nat), .int (L : Nat)] = .ok (.lst ((List.range (m + 1)).map (rowD n))) := h.table
  have v := h.val
  rw [q] at v
  have v : ∀ cs, opIx (rowD n m) (.int (n : Nat)) cs = .ok .non cs := v
  rw [F_thrifty]
  unfold c_thrifty
  simp -implicitDefEqProofs only [↓G.e_seq, ↓G.e_skip, ↓G.e_asg, ↓G.e_drop, ↓G.e_ret, ↓G.e_raise, ↓G.e_raiseN, ↓G.e_if, ↓G.e_val, ↓G.e_not, ↓G.e_or, ↓G.e_and, ↓G.e_xand, ↓G.e_xor, ↓G.e_xnot, ↓G.e_var, ↓G.e_c, ↓G.e_bin, ↓G.e_un, ↓G.e_chain, ↓G.e_nil, ↓G.e_cons, ↓G.e_tup, ↓G.e_lst, ↓G.e_call, ↓G.e_callM, ↓G.e_callP, ↓G.e_callO, ↓G.e_for, ↓G.e_itSeq, ↓G.e_itTup, ↓G.e_itR1, ↓G.e_itR2, G.kk_ok, G.kk_ex, G.kF_nx, G.kF_rt, G.kF_ex, G.kI_t, G.kI_f, G.kT_nm, G.kT_tp2, G.kT_ex, G.kB_bl, G.kV_some, G.kO_some, G.kFor_ok, G.nX_n, G.nX_i, G.vB_bl, G.vT_t, G.kP_rt, G.kP_nx, G.kP_ex, G.kQ_some, G.kM_rt, G.kM_nx, G.kM_ex, G.kPO_ex, G.res_bl, G.res_int, G.res_str, G.res_non, G.thr_e, G.ret_e, G.up_ok, G.up_ex, G.upO_ok, G.upO_ex, G.mkL_t, G.mkL_n, G.o_sub, G.o_lt, G.o_le, G.o_gt, G.o_ge, G.o_add, G.o_neg, G.o_isN, G.o_isNI, G.o_isNT, G.o_isNL, G.o_isNR, G.o_isNB, G.o_isNS, G.o_is, G.o_ixT, G.o_ixL, G.o_ixS, G.at_0, G.at_1, G.o_lenL, G.o_lenT, G.o_lenC, G.o_lenS, G.o_max2, G.o_min2, G.o_intB, G.o_intI, G.o_listL, G.o_listT, G.o_listC, G.o_tupL, G.o_eqIt, G.o_eqIf, G.seq_lst, G.seq_scr, G.seq_ref, G.noRL_nil, G.noRL_cons, G.noR_non, G.noR_bl, G.noR_int, G.noR_str, G.noR_dic, G.noR_scr, G.noR_tup, G.noR_lst, G.isd_int, G.isd_intb, G.isd_bool, G.isd_boolb, G.isd_tup, G.isd_lst, G.isd_ref, G.live_lst, G.tgS_nm, G.tgS_tp2, List.getElem?_cons_zero, List.getElem?_cons_succ, List.set_cons_zero, List.set_cons_succ, List.length_cons, List.length_nil, List.nil_append, List.cons_append, Bool.and_true, Bool.true_and, Bool.and_self, Bool.not_true, Bool.not_false, decide_true, decide_false, Nat.reduceAdd, Int.reduceAdd, Int.reduceSub, Int.reduceMul, Int.reduceNeg, Int.cast_ofNat_Int, Int.natCast_zero, Int.natCast_one, eq_self, Int.reduceEq, Int.reduceLT, Int.reduceLE, wish_ok h.n1 h.n2 h.L2, t, tab_last, v]
theorem Fc.thr_some {n m L w : Nat} (h : Fc n m L) (q : few n m = some w) {d : D} (hd : f_laid [.int (n : Nat), .int (m : Nat), tabD n m] = .ok d) (nd : noR d = true) : f_thrifty [.int (n : Nat), .int (L : Nat)] = .ok d := by
  have t : f_table_of [.int (n : Nat), .int (L : Nat)] = .ok (.lst ((List.range (m + 1)).map (rowD n))) := h.table
  have nr : noRL ((List.range (m + 1)).map (rowD n)) = true := noR_tab n m
  have lm := laid_min h.hm
  rw [hd] at lm
  unfold tabD at lm
  have v := h.val
  rw [q] at v
  have v : ∀ cs, opIx (rowD n m) (.int (n : Nat)) cs = .ok (.int (w : Nat)) cs := v
  rw [F_thrifty]
  unfold c_thrifty
  simp -implicitDefEqProofs only [↓G.e_seq, ↓G.e_skip, ↓G.e_asg, ↓G.e_drop, ↓G.e_ret, ↓G.e_raise, ↓G.e_raiseN, ↓G.e_if, ↓G.e_val, ↓G.e_not, ↓G.e_or, ↓G.e_and, ↓G.e_xand, ↓G.e_xor, ↓G.e_xnot, ↓G.e_var, ↓G.e_c, ↓G.e_bin, ↓G.e_un, ↓G.e_chain, ↓G.e_nil, ↓G.e_cons, ↓G.e_tup, ↓G.e_lst, ↓G.e_call, ↓G.e_callM, ↓G.e_callP, ↓G.e_callO, ↓G.e_for, ↓G.e_itSeq, ↓G.e_itTup, ↓G.e_itR1, ↓G.e_itR2, G.kk_ok, G.kk_ex, G.kF_nx, G.kF_rt, G.kF_ex, G.kI_t, G.kI_f, G.kT_nm, G.kT_tp2, G.kT_ex, G.kB_bl, G.kV_some, G.kO_some, G.kFor_ok, G.nX_n, G.nX_i, G.vB_bl, G.vT_t, G.kP_rt, G.kP_nx, G.kP_ex, G.kQ_some, G.kM_rt, G.kM_nx, G.kM_ex, G.kPO_ex, G.res_bl, G.res_int, G.res_str, G.res_non, G.thr_e, G.ret_e, G.up_ok, G.up_ex, G.upO_ok, G.upO_ex, G.mkL_t, G.mkL_n, G.o_sub, G.o_lt, G.o_le, G.o_gt, G.o_ge, G.o_add, G.o_neg, G.o_isN, G.o_isNI, G.o_isNT, G.o_isNL, G.o_isNR, G.o_isNB, G.o_isNS, G.o_is, G.o_ixT, G.o_ixL, G.o_ixS, G.at_0, G.at_1, G.o_lenL, G.o_lenT, G.o_lenC, G.o_lenS, G.o_max2, G.o_min2, G.o_intB, G.o_intI, G.o_listL, G.o_listT, G.o_listC, G.o_tupL, G.o_eqIt, G.o_eqIf, G.seq_lst, G.seq_scr, G.seq_ref, G.noRL_nil, G.noRL_cons, G.noR_non, G.noR_bl, G.noR_int, G.noR_str, G.noR_dic, G.noR_scr, G.noR_tup, G.noR_lst, G.isd_int, G.isd_intb, G.isd_bool, G.isd_boolb, G.isd_tup, G.isd_lst, G.isd_ref, G.live_lst, G.tgS_nm, G.tgS_tp2, List.getElem?_cons_zero, List.getElem?_cons_succ, List.set_cons_zero, List.set_cons_succ, List.length_cons, List.length_nil, List.nil_append, List.cons_append, Bool.and_true, Bool.true_and, Bool.and_self, Bool.not_true, Bool.not_false, decide_true, decide_false, Nat.reduceAdd, Int.reduceAdd, Int.reduceSub, Int.reduceMul, Int.reduceNeg, Int.cast_ofNat_Int, Int.natCast_zero, Int.natCast_one, eq_self, Int.reduceEq, Int.reduceLT, Int.reduceLE, wish_ok h.n1 h.n2 h.L2, t, tab_last, v, nr, lm, res_n [] nd]
theorem tryW_ok {i : Nat} {body : En → M Fl} {env : En} {cs cs1 : Cs} {f : Fl} (hi : i < env.length) (h : body env cs = .ok f cs1) : sTryW i body env cs = .ok f cs1 := by
  unfold sTryW
  rw [if_pos hi, h]
theorem tryW_ex {i : Nat} {body : En → M Fl} {env : En} {cs cs1 : Cs} (y : X4) (hi : i < env.length) (h : body env cs = .ex y.e cs1) : sTryW i body env cs = .ok (.rt (.lst [.str y.word])) cs1 := by
  unfold sTryW
  rw [if_pos hi, h]
  cases y <;> rfl
abbrev tBody : En → M Fl := sSeq (sIf (bVal (xBin (opEq true) (xVar 0) (xC (.int 0)))) (sRet (xTup (aCons (xCallP f_fewest (aCons (xVar 1) (aCons (xVar 2) (aNil)))) (aNil)))) (sSkip)) (sRet (xTup (aCons (xCallP f_thrifty (aCons (xVar 1) (aCons (xVar 2) (aNil)))) (aNil))))
theorem tried_0 {n L d : D} (nn : noR n = true) (nL : noR L = true) (h : f_fewest [n, L] = .ok d) (nd : noR d = true) : f__law_tried [.int 0, n, L] = .ok (.tup [d]) := by
  have e : tBody [some (.int 0), some n, some L, none] [] = .ok (.rt (.tup [d])) [] := by simp -implicitDefEqProofs only [↓G.e_seq, ↓G.e_skip, ↓G.e_asg, ↓G.e_drop, ↓G.e_ret, ↓G.e_raise, ↓G.e_raiseN, ↓G.e_if, ↓G.e_val, ↓G.e_not, ↓G.e_or, ↓G.e_and, ↓G.e_xand, ↓G.e_xor, ↓G.e_xnot, ↓G.e_var, ↓G.e_c, ↓G.e_bin, ↓G.e_un, ↓G.e_chain, ↓G.e_nil, ↓G.e_cons, ↓G.e_tup, ↓G.e_lst, ↓G.e_call, ↓G.e_callM, ↓G.e_callP, ↓G.e_callO, ↓G.e_for, ↓G.e_itSeq, ↓G.e_itTup, ↓G.e_itR1, ↓G.e_itR2, G.kk_ok, G.kk_ex, G.kF_nx, G.kF_rt, G.kF_ex, G.kI_t, G.kI_f, G.kT_nm, G.kT_tp2, G.kT_ex, G.kB_bl, G.kV_some, G.kO_some, G.kFor_ok, G.nX_n, G.nX_i, G.vB_bl, G.vT_t, G.kP_rt, G.kP_nx, G.kP_ex, G.kQ_some, G.kM_rt, G.kM_nx, G.kM_ex, G.kPO_ex, G.res_bl, G.res_int, G.res_str, G.res_non, G.thr_e, G.ret_e, G.up_ok, G.up_ex, G.upO_ok, G.upO_ex, G.mkL_t, G.mkL_n, G.o_sub, G.o_lt, G.o_le, G.o_gt, G.o_ge, G.o_add, G.o_neg, G.o_isN, G.o_isNI, G.o_isNT, G.o_isNL, G.o_isNR, G.o_isNB, G.o_isNS, G.o_is, G.o_ixT, G.o_ixL, G.o_ixS, G.at_0, G.at_1, G.o_lenL, G.o_lenT, G.o_lenC, G.o_lenS, G.o_max2, G.o_min2, G.o_intB, G.o_intI, G.o_listL, G.o_listT, G.o_listC, G.o_tupL, G.o_eqIt, G.o_eqIf, G.seq_lst, G.seq_scr, G.seq_ref, G.noRL_nil, G.noRL_cons, G.noR_non, G.noR_bl, G.noR_int, G.noR_str, G.noR_dic, G.noR_scr, G.noR_tup, G.noR_lst, G.isd_int, G.isd_intb, G.isd_bool, G.isd_boolb, G.isd_tup, G.isd_lst, G.isd_ref, G.live_lst, G.tgS_nm, G.tgS_tp2, List.getElem?_cons_zero, List.getElem?_cons_succ, List.set_cons_zero, List.set_cons_succ, List.length_cons, List.length_nil, List.nil_append, List.cons_append, Bool.and_true, Bool.true_and, Bool.and_self, Bool.not_true, Bool.not_false, decide_true, decide_false, Nat.reduceAdd, Int.reduceAdd, Int.reduceSub, Int.reduceMul, Int.reduceNeg, Int.cast_ofNat_Int, Int.natCast_zero, Int.natCast_one, eq_self, Int.reduceEq, Int.reduceLT, Int.reduceLE, nn, nL, h, szOk_small, Nat.reduceLeDiff]
  rw [F__law_tried]
  unfold c__law_tried
  rw [tryW_ok (by simp) e, kP_rt, res_n [] (by rw [noR_tup, noRL_cons, nd]; rfl)]
  rfl
theorem tried_1 {n L d : D} (nn : noR n = true) (nL : noR L = true) (h : f_thrifty [n, L] = .ok d) (nd : noR d = true) : f__law_tried [.int 1, n, L] = .ok (.tup [d]) := by
  have e : tBody [some (.int 1), some n, some L, none] [] = .ok (.rt (.tup [d])) [] := by simp -implicitDefEqProofs only [↓G.e_seq, ↓G.e_skip, ↓G.e_asg, ↓G.e_drop, ↓G.e_ret, ↓G.e_raise, ↓G.e_raiseN, ↓G.e_if, ↓G.e_val, ↓G.e_not, ↓G.e_or, ↓G.e_and, ↓G.e_xand, ↓G.e_xor, ↓G.e_xnot, ↓G.e_var, ↓G.e_c, ↓G.e_bin, ↓G.e_un, ↓G.e_chain, ↓G.e_nil, ↓G.e_cons, ↓G.e_tup, ↓G.e_lst, ↓G.e_call, ↓G.e_callM, ↓G.e_callP, ↓G.e_callO, ↓G.e_for, ↓G.e_itSeq, ↓G.e_itTup, ↓G.e_itR1, ↓G.e_itR2, G.kk_ok, G.kk_ex, G.kF_nx, G.kF_rt, G.kF_ex, G.kI_t, G.kI_f, G.kT_nm, G.kT_tp2, G.kT_ex, G.kB_bl, G.kV_some, G.kO_some, G.kFor_ok, G.nX_n, G.nX_i, G.vB_bl, G.vT_t, G.kP_rt, G.kP_nx, G.kP_ex, G.kQ_some, G.kM_rt, G.kM_nx, G.kM_ex, G.kPO_ex, G.res_bl, G.res_int, G.res_str, G.res_non, G.thr_e, G.ret_e, G.up_ok, G.up_ex, G.upO_ok, G.upO_ex, G.mkL_t, G.mkL_n, G.o_sub, G.o_lt, G.o_le, G.o_gt, G.o_ge, G.o_add, G.o_neg, G.o_isN, G.o_isNI, G.o_isNT, G.o_isNL, G.o_isNR, G.o_isNB, G.o_isNS, G.o_is, G.o_ixT, G.o_ixL, G.o_ixS, G.at_0, G.at_1, G.o_lenL, G.o_lenT, G.o_lenC, G.o_lenS, G.o_max2, G.o_min2, G.o_intB, G.o_intI, G.o_listL, G.o_listT, G.o_listC, G.o_tupL, G.o_eqIt, G.o_eqIf, G.seq_lst, G.seq_scr, G.seq_ref, G.noRL_nil, G.noRL_cons, G.noR_non, G.noR_bl, G.noR_int, G.noR_str, G.noR_dic, G.noR_scr, G.noR_tup, G.noR_lst, G.isd_int, G.isd_intb, G.isd_bool, G.isd_boolb, G.isd_tup, G.isd_lst, G.isd_ref, G.live_lst, G.tgS_nm, G.tgS_tp2, List.getElem?_cons_zero, List.getElem?_cons_succ, List.set_cons_zero, List.set_cons_succ, List.length_cons, List.length_nil, List.nil_append, List.cons_append, Bool.and_true, Bool.true_and, Bool.and_self, Bool.not_true, Bool.not_false, decide_true, decide_false, Nat.reduceAdd, Int.reduceAdd, Int.reduceSub, Int.reduceMul, Int.reduceNeg, Int.cast_ofNat_Int, Int.natCast_zero, Int.natCast_one, eq_self, Int.reduceEq, Int.reduceLT, Int.reduceLE, nn, nL, h, szOk_small, Nat.reduceLeDiff]
  rw [F__law_tried]
  unfold c__law_tried
  rw [tryW_ok (by simp) e, kP_rt, res_n [] (by rw [noR_tup, noRL_cons, nd]; rfl)]
  rfl
theorem tried_2 {n L : D} (nn : noR n = true) (nL : noR L = true) (h : f_thrifty [n, L] = .ex .nonet) : f__law_tried [.int 1, n, L] = .ok (.lst [.str (PySem.Str.ofString "none")]) := by
  have e : tBody [some (.int 1), some n, some L, none] [] = .ex X4.nonet.e [] := by
    show _ = Rs.ex Exn.nonet []
    simp -implicitDefEqProofs only [↓G.e_seq, ↓G.e_skip, ↓G.e_asg, ↓G.e_drop, ↓G.e_ret, ↓G.e_raise, ↓G.e_raiseN, ↓G.e_if, ↓G.e_val, ↓G.e_not, ↓G.e_or, ↓G.e_and, ↓G.e_xand, ↓G.e_xor, ↓G.e_xnot, ↓G.e_var, ↓G.e_c, ↓G.e_bin, ↓G.e_un, ↓G.e_chain, ↓G.e_nil, ↓G.e_cons, ↓G.e_tup, ↓G.e_lst, ↓G.e_call, ↓G.e_callM, ↓G.e_callP, ↓G.e_callO, ↓G.e_for, ↓G.e_itSeq, ↓G.e_itTup, ↓G.e_itR1, ↓G.e_itR2, G.kk_ok, G.kk_ex, G.kF_nx, G.kF_rt, G.kF_ex, G.kI_t, G.kI_f, G.kT_nm, G.kT_tp2, G.kT_ex, G.kB_bl, G.kV_some, G.kO_some, G.kFor_ok, G.nX_n, G.nX_i, G.vB_bl, G.vT_t, G.kP_rt, G.kP_nx, G.kP_ex, G.kQ_some, G.kM_rt, G.kM_nx, G.kM_ex, G.kPO_ex, G.res_bl, G.res_int, G.res_str, G.res_non, G.thr_e, G.ret_e, G.up_ok, G.up_ex, G.upO_ok, G.upO_ex, G.mkL_t, G.mkL_n, G.o_sub, G.o_lt, G.o_le, G.o_gt, G.o_ge, G.o_add, G.o_neg, G.o_isN, G.o_isNI, G.o_isNT, G.o_isNL, G.o_isNR, G.o_isNB, G.o_isNS, G.o_is, G.o_ixT, G.o_ixL, G.o_ixS, G.at_0, G.at_1, G.o_lenL, G.o_lenT, G.o_lenC, G.o_lenS, G.o_max2, G.o_min2, G.o_intB, G.o_intI, G.o_listL, G.o_listT, G.o_listC, G.o_tupL, G.o_eqIt, G.o_eqIf, G.seq_lst, G.seq_scr, G.seq_ref, G.noRL_nil, G.noRL_cons, G.noR_non, G.noR_bl, G.noR_int, G.noR_str, G.noR_dic, G.noR_scr, G.noR_tup, G.noR_lst, G.isd_int, G.isd_intb, G.isd_bool, G.isd_boolb, G.isd_tup, G.isd_lst, G.isd_ref, G.live_lst, G.tgS_nm, G.tgS_tp2, List.getElem?_cons_zero, List.getElem?_cons_succ, List.set_cons_zero, List.set_cons_succ, List.length_cons, List.length_nil, List.nil_append, List.cons_append, Bool.and_true, Bool.true_and, Bool.and_self, Bool.not_true, Bool.not_false, decide_true, decide_false, Nat.reduceAdd, Int.reduceAdd, Int.reduceSub, Int.reduceMul, Int.reduceNeg, Int.cast_ofNat_Int, Int.natCast_zero, Int.natCast_one, eq_self, Int.reduceEq, Int.reduceLT, Int.reduceLE, nn, nL, h]
  rw [F__law_tried]
  unfold c__law_tried
  rw [tryW_ex .nonet (by simp) e]
  rfl
end LK
namespace LK
open L2 G PySem PySem.Spec PyProof.Rows
theorem whole_int (i : Int) : f__law_whole [.int i] = .ok (.bl true) := rfl
/-- the law's last part -/
theorem law_end {ns : List Int} {n L : Nat} {c : Int} (n1 : 1 ≤ n) (n2 : n ≤ 16) (hL : L ≤ 80) : ∃ cs, r_law_6 [some (.scr ns), some (.int (n : Nat)), some (.int (L : Nat)), some (.int c), none, none, none, none, none, none, none] [] = .ok (.rt (.bl true)) cs := by
  obtain ⟨m, hm⟩ : ∃ m : Nat, min (L : Int) (n : Int) = (m : Int) := ⟨min L n, by omega⟩
  have h : Fc n m L := ⟨hm, n1, n2, hL⟩
  have ml := h.ml
  have ca := h.ck.a m ml.1 (.scr ns) (.int c) (.int (L : Nat))
  have f0 := tried_0 (n := .int (n : Nat)) (L := .int (L : Nat)) rfl rfl h.fewest (optD_noR _)
  have re := reach_ok hL
  have rl := reach_lt (L := L) n2
  rw [← ml.2.2] at rl
  have le := h.least
  unfold ckAll at ca
  cases q : few n m with
  | none =>
    rw [q] at ca f0
    have f0 : f__law_tried [.int 0, .int (n : Nat), .int (L : Nat)] = .ok (.tup [.non]) := f0
    have ca : (decide (1000000 ≤ due n m) && decide (2 ^ m < n)) = true := ca
    rw [Bool.and_eq_true, decide_eq_true_eq, decide_eq_true_eq] at ca
    have f1 := tried_2 (n := .int (n : Nat)) (L := .int (L : Nat)) rfl rfl (h.thr_none q)
    have z : ((1000000 : Int) ≤ (due n m : Nat)) ↔ True := by simp only [iff_true]; omega
    have z2 : (((2 ^ min L 10 : Nat) : Int) < (n : Int)) ↔ True := by
      simp only [iff_true]
      have := rl.mpr ca.2
      omega
    have q1 : ∀ cs, opEq true (.tup [.non]) (.tup [.non]) cs = .ok (.bl true) cs := fun cs => rfl
    have q2 : ∀ cs, opEq true (.lst [.str (PySem.Str.ofString "none")]) (.lst [.str (PySem.Str.ofString "none")]) cs = .ok (.bl true) cs := fun cs => eq_refl (n := 3) (by kernel_rfl) (by decide) cs
    refine ⟨[], ?_⟩
    unfold r_law_6
    simp -implicitDefEqProofs only [↓G.e_seq, ↓G.e_skip, ↓G.e_asg, ↓G.e_drop, ↓G.e_ret, ↓G.e_raise, ↓G.e_raiseN, ↓G.e_if, ↓G.e_val, ↓G.e_not, ↓G.e_or, ↓G.e_and, ↓G.e_xand, ↓G.e_xor, ↓G.e_xnot, ↓G.e_var, ↓G.e_c, ↓G.e_bin, ↓G.e_un, ↓G.e_chain, ↓G.e_nil, ↓G.e_cons, ↓G.e_tup, ↓G.e_lst, ↓G.e_call, ↓G.e_callM, ↓G.e_callP, ↓G.e_callO, ↓G.e_for, ↓G.e_itSeq, ↓G.e_itTup, ↓G.e_itR1, ↓G.e_itR2, G.kk_ok, G.kk_ex, G.kF_nx, G.kF_rt, G.kF_ex, G.kI_t, G.kI_f, G.kT_nm, G.kT_tp2, G.kT_ex, G.kB_bl, G.kV_some, G.kO_some, G.kFor_ok, G.nX_n, G.nX_i, G.vB_bl, G.vT_t, G.kP_rt, G.kP_nx, G.kP_ex, G.kQ_some, G.kM_rt, G.kM_nx, G.kM_ex, G.kPO_ex, G.res_bl, G.res_int, G.res_str, G.res_non, G.thr_e, G.ret_e, G.up_ok, G.up_ex, G.upO_ok, G.upO_ex, G.mkL_t, G.mkL_n, G.o_sub, G.o_lt, G.o_le, G.o_gt, G.o_ge, G.o_add, G.o_neg, G.o_isN, G.o_isNI, G.o_isNT, G.o_isNL, G.o_isNR, G.o_isNB, G.o_isNS, G.o_is, G.o_ixT, G.o_ixL, G.o_ixS, G.at_0, G.at_1, G.o_lenL, G.o_lenT, G.o_lenC, G.o_lenS, G.o_max2, G.o_min2, G.o_intB, G.o_intI, G.o_listL, G.o_listT, G.o_listC, G.o_tupL, G.o_eqIt, G.o_eqIf, G.seq_lst, G.seq_scr, G.seq_ref, G.noRL_nil, G.noRL_cons, G.noR_non, G.noR_bl, G.noR_int, G.noR_str, G.noR_dic, G.noR_scr, G.noR_tup, G.noR_lst, G.isd_int, G.isd_intb, G.isd_bool, G.isd_boolb, G.isd_tup, G.isd_lst, G.isd_ref, G.live_lst, G.tgS_nm, G.tgS_tp2, List.getElem?_cons_zero, List.getElem?_cons_succ, List.set_cons_zero, List.set_cons_succ, List.length_cons, List.length_nil, List.nil_append, List.cons_append, Bool.and_true, Bool.true_and, Bool.and_self, Bool.not_true, Bool.not_false, decide_true, decide_false, Nat.reduceAdd, Int.reduceAdd, Int.reduceSub, Int.reduceMul, Int.reduceNeg, Int.cast_ofNat_Int, Int.natCast_zero, Int.natCast_one, eq_self, Int.reduceEq, Int.reduceLT, Int.reduceLE, le, r_law_7, f0, r_law_8, f1, r_law_9, z, q1, q2, re, z2, szOk_small, Nat.reduceLeDiff]
  | some v =>
    rw [q] at ca f0
    have f0 : f__law_tried [.int 0, .int (n : Nat), .int (L : Nat)] = .ok (.tup [.int (v : Nat)]) := f0
    have ca : (decide (due n m = v) && (decide (v < 1000000) && (decide (n ≤ 2 ^ m) && ckN n m (.scr ns) (.int c) (.tup [.int (v : Nat)]) (.int (L : Nat))))) = true := ca
    rw [Bool.and_eq_true, Bool.and_eq_true, Bool.and_eq_true, decide_eq_true_eq, decide_eq_true_eq, decide_eq_true_eq] at ca
    obtain ⟨a1, a2, a3, a4⟩ := ca
    obtain ⟨ls, b1, b2, b3, b4, cs, b5⟩ := ckN_ok a4
    have f1 := tried_1 (n := .int (n : Nat)) (L := .int (L : Nat)) rfl rfl (h.thr_some q b1 b2) b2
    rw [a1] at le b5
    have z : ((1000000 : Int) ≤ (v : Nat)) ↔ False := by simp only [iff_false]; omega
    have z2 : (((2 ^ min L 10 : Nat) : Int) < (n : Int)) ↔ False := by
      simp only [iff_false]
      have := mt rl.mp (Nat.not_lt.mpr a3)
      omega
    have z3 : ((L : Int) < (ls.length : Nat)) ↔ False := by simp only [iff_false]; omega
    refine ⟨cs, ?_⟩
    unfold r_law_6
    simp -implicitDefEqProofs only [↓G.e_seq, ↓G.e_skip, ↓G.e_asg, ↓G.e_drop, ↓G.e_ret, ↓G.e_raise, ↓G.e_raiseN, ↓G.e_if, ↓G.e_val, ↓G.e_not, ↓G.e_or, ↓G.e_and, ↓G.e_xand, ↓G.e_xor, ↓G.e_xnot, ↓G.e_var, ↓G.e_c, ↓G.e_bin, ↓G.e_un, ↓G.e_chain, ↓G.e_nil, ↓G.e_cons, ↓G.e_tup, ↓G.e_lst, ↓G.e_call, ↓G.e_callM, ↓G.e_callP, ↓G.e_callO, ↓G.e_for, ↓G.e_itSeq, ↓G.e_itTup, ↓G.e_itR1, ↓G.e_itR2, G.kk_ok, G.kk_ex, G.kF_nx, G.kF_rt, G.kF_ex, G.kI_t, G.kI_f, G.kT_nm, G.kT_tp2, G.kT_ex, G.kB_bl, G.kV_some, G.kO_some, G.kFor_ok, G.nX_n, G.nX_i, G.vB_bl, G.vT_t, G.kP_rt, G.kP_nx, G.kP_ex, G.kQ_some, G.kM_rt, G.kM_nx, G.kM_ex, G.kPO_ex, G.res_bl, G.res_int, G.res_str, G.res_non, G.thr_e, G.ret_e, G.up_ok, G.up_ex, G.upO_ok, G.upO_ex, G.mkL_t, G.mkL_n, G.o_sub, G.o_lt, G.o_le, G.o_gt, G.o_ge, G.o_add, G.o_neg, G.o_isN, G.o_isNI, G.o_isNT, G.o_isNL, G.o_isNR, G.o_isNB, G.o_isNS, G.o_is, G.o_ixT, G.o_ixL, G.o_ixS, G.at_0, G.at_1, G.o_lenL, G.o_lenT, G.o_lenC, G.o_lenS, G.o_max2, G.o_min2, G.o_intB, G.o_intI, G.o_listL, G.o_listT, G.o_listC, G.o_tupL, G.o_eqIt, G.o_eqIf, G.seq_lst, G.seq_scr, G.seq_ref, G.noRL_nil, G.noRL_cons, G.noR_non, G.noR_bl, G.noR_int, G.noR_str, G.noR_dic, G.noR_scr, G.noR_tup, G.noR_lst, G.isd_int, G.isd_intb, G.isd_bool, G.isd_boolb, G.isd_tup, G.isd_lst, G.isd_ref, G.live_lst, G.tgS_nm, G.tgS_tp2, List.getElem?_cons_zero, List.getElem?_cons_succ, List.set_cons_zero, List.set_cons_succ, List.length_cons, List.length_nil, List.nil_append, List.cons_append, Bool.and_true, Bool.true_and, Bool.and_self, Bool.not_true, Bool.not_false, decide_true, decide_false, Nat.reduceAdd, Int.reduceAdd, Int.reduceSub, Int.reduceMul, Int.reduceNeg, Int.cast_ofNat_Int, Int.natCast_zero, Int.natCast_one, eq_self, Int.reduceEq, Int.reduceLT, Int.reduceLE, le, r_law_7, f0, r_law_8, f1, r_law_9, z, r_law_10, whole_int, re, z2, r_law_11, b2, b4, z3]
    exact b5
/-- what is refused -/
theorem law_pairs {ns : List Int} {n L : Nat} {c : Int} (n1 : 1 ≤ n) (n2 : n ≤ 16) : ∃ cs, c % 4 = 1 → r_law_5 [some (.scr ns), some (.int (n : Nat)), some (.int (L : Nat)), some (.int c), none, none, none, none, none, none, none] [] = .ok (.rt (.bl true)) cs := by
  refine ⟨[], fun hc => ?_⟩
  have m1 := Int.emod_nonneg (c / 4) (b := 7) (by decide)
  have m2 := Int.emod_lt_of_pos (c / 4) (b := 7) (by decide)
  have qq : ∀ cs, opEq true (.lst [linesD, linesD]) (.lst [linesD, linesD]) cs = .ok (.bl true) cs := fun cs => eq_refl (n := 3) (by kernel_rfl) (by decide) cs
  have at_p : ∀ (xs : List D) (k : Nat) (x : D), c / 4 % 7 = (k : Int) → xs[k]? = some x → atI xs (c / 4 % 7) = some x := fun xs k x e g => at_k (k := k) e g
  have go : ∀ (k : Nat) (x y : D), c / 4 % 7 = (k : Int) → noR x = true → noR y = true → (∀ k : Bool, f__law_tried [.int (if k then 1 else 0), x, y] = .ok linesD) →
      [D.lst [.int 0, .int (L : Nat)], .lst [.int 65, .int (L : Nat)], .lst [.bl true, .int (L : Nat)], .lst [.int (n : Nat), .int (-1)], .lst [.int (n : Nat), .int 81], .lst [.int (n : Nat), .non], .lst [.str (PySem.Str.ofString "2"), .int 3]][k]? = some (.lst [x, y]) →
      r_law_5 [some (.scr ns), some (.int (n : Nat)), some (.int (L : Nat)), some (.int c), none, none, none, none, none, none, none] [] = .ok (.rt (.bl true)) [] := fun k x y e nx ny hh g => by
    have b := both_ok (env := [some (.scr ns), some (.int (n : Nat)), some (.int (L : Nat)), some (.int c), some (.lst [x, y]), none, none, none, none, none, none]) (x := x) (y := y) (by simp) rfl nx ny hh
    unfold r_law_5
    simp -implicitDefEqProofs only [↓G.e_seq, ↓G.e_skip, ↓G.e_asg, ↓G.e_drop, ↓G.e_ret, ↓G.e_raise, ↓G.e_raiseN, ↓G.e_if, ↓G.e_val, ↓G.e_not, ↓G.e_or, ↓G.e_and, ↓G.e_xand, ↓G.e_xor, ↓G.e_xnot, ↓G.e_var, ↓G.e_c, ↓G.e_bin, ↓G.e_un, ↓G.e_chain, ↓G.e_nil, ↓G.e_cons, ↓G.e_tup, ↓G.e_lst, ↓G.e_call, ↓G.e_callM, ↓G.e_callP, ↓G.e_callO, ↓G.e_for, ↓G.e_itSeq, ↓G.e_itTup, ↓G.e_itR1, ↓G.e_itR2, G.kk_ok, G.kk_ex, G.kF_nx, G.kF_rt, G.kF_ex, G.kI_t, G.kI_f, G.kT_nm, G.kT_tp2, G.kT_ex, G.kB_bl, G.kV_some, G.kO_some, G.kFor_ok, G.nX_n, G.nX_i, G.vB_bl, G.vT_t, G.kP_rt, G.kP_nx, G.kP_ex, G.kQ_some, G.kM_rt, G.kM_nx, G.kM_ex, G.kPO_ex, G.res_bl, G.res_int, G.res_str, G.res_non, G.thr_e, G.ret_e, G.up_ok, G.up_ex, G.upO_ok, G.upO_ex, G.mkL_t, G.mkL_n, G.o_sub, G.o_lt, G.o_le, G.o_gt, G.o_ge, G.o_add, G.o_neg, G.o_isN, G.o_isNI, G.o_isNT, G.o_isNL, G.o_isNR, G.o_isNB, G.o_isNS, G.o_is, G.o_ixT, G.o_ixL, G.o_ixS, G.at_0, G.at_1, G.o_lenL, G.o_lenT, G.o_lenC, G.o_lenS, G.o_max2, G.o_min2, G.o_intB, G.o_intI, G.o_listL, G.o_listT, G.o_listC, G.o_tupL, G.o_eqIt, G.o_eqIf, G.seq_lst, G.seq_scr, G.seq_ref, G.noRL_nil, G.noRL_cons, G.noR_non, G.noR_bl, G.noR_int, G.noR_str, G.noR_dic, G.noR_scr, G.noR_tup, G.noR_lst, G.isd_int, G.isd_intb, G.isd_bool, G.isd_boolb, G.isd_tup, G.isd_lst, G.isd_ref, G.live_lst, G.tgS_nm, G.tgS_tp2, List.getElem?_cons_zero, List.getElem?_cons_succ, List.set_cons_zero, List.set_cons_succ, List.length_cons, List.length_nil, List.nil_append, List.cons_append, Bool.and_true, Bool.true_and, Bool.and_self, Bool.not_true, Bool.not_false, decide_true, decide_false, Nat.reduceAdd, Int.reduceAdd, Int.reduceSub, Int.reduceMul, Int.reduceNeg, Int.cast_ofNat_Int, Int.natCast_zero, Int.natCast_one, eq_self, Int.reduceEq, Int.reduceLT, Int.reduceLE, o_mod (i := c) (j := 4) (by decide), hc, o_div (i := c) (j := 4) (by decide) (by decide), o_mod (i := c / 4) (j := 7) (by decide), at_p _ k _ e g, b, qq, szOk_small, Nat.reduceLeDiff]
  rcases (by omega : c / 4 % 7 = (0 : Nat) ∨ c / 4 % 7 = (1 : Nat) ∨ c / 4 % 7 = (2 : Nat) ∨ c / 4 % 7 = (3 : Nat) ∨ c / 4 % 7 = (4 : Nat) ∨ c / 4 % 7 = (5 : Nat) ∨ c / 4 % 7 = (6 : Nat)) with e | e | e | e | e | e | e
  · exact go 0 _ _ e rfl rfl (fun k => p0 k _) rfl
  · exact go 1 _ _ e rfl rfl (fun k => p1 k _) rfl
  · exact go 2 _ _ e rfl rfl (fun k => p2 k _) rfl
  · exact go 3 _ _ e rfl rfl (fun k => p3 n1 n2 k _ (by simp)) rfl
  · exact go 4 _ _ e rfl rfl (fun k => p3 n1 n2 k _ (by simp)) rfl
  · exact go 5 _ _ e rfl rfl (fun k => p3 n1 n2 k _ (by simp)) rfl
  · exact go 6 _ _ e rfl rfl (fun k => p6 k _) rfl
theorem law_4 {ns : List Int} {n L : Nat} (n1 : 1 ≤ n) (n2 : n ≤ 16) (hL : L ≤ 80) : ∃ cs, r_law_4 [some (.scr ns), some (.int (n : Nat)), some (.int (L : Nat)), none, none, none, none, none, none, none, none] [] = .ok (.rt (.bl true)) cs := by
  obtain ⟨c, hc⟩ := cell_at ns 2 (by decide)
  have e : ∀ cs, r_law_5 [some (.scr ns), some (.int (n : Nat)), some (.int (L : Nat)), some (.int c), none, none, none, none, none, none, none] [] = .ok (.rt (.bl true)) cs → r_law_4 [some (.scr ns), some (.int (n : Nat)), some (.int (L : Nat)), none, none, none, none, none, none, none, none] [] = .ok (.rt (.bl true)) cs := fun cs h => by
    unfold r_law_4
    simp -implicitDefEqProofs only [↓G.e_seq, ↓G.e_skip, ↓G.e_asg, ↓G.e_drop, ↓G.e_ret, ↓G.e_raise, ↓G.e_raiseN, ↓G.e_if, ↓G.e_val, ↓G.e_not, ↓G.e_or, ↓G.e_and, ↓G.e_xand, ↓G.e_xor, ↓G.e_xnot, ↓G.e_var, ↓G.e_c, ↓G.e_bin, ↓G.e_un, ↓G.e_chain, ↓G.e_nil, ↓G.e_cons, ↓G.e_tup, ↓G.e_lst, ↓G.e_call, ↓G.e_callM, ↓G.e_callP, ↓G.e_callO, ↓G.e_for, ↓G.e_itSeq, ↓G.e_itTup, ↓G.e_itR1, ↓G.e_itR2, G.kk_ok, G.kk_ex, G.kF_nx, G.kF_rt, G.kF_ex, G.kI_t, G.kI_f, G.kT_nm, G.kT_tp2, G.kT_ex, G.kB_bl, G.kV_some, G.kO_some, G.kFor_ok, G.nX_n, G.nX_i, G.vB_bl, G.vT_t, G.kP_rt, G.kP_nx, G.kP_ex, G.kQ_some, G.kM_rt, G.kM_nx, G.kM_ex, G.kPO_ex, G.res_bl, G.res_int, G.res_str, G.res_non, G.thr_e, G.ret_e, G.up_ok, G.up_ex, G.upO_ok, G.upO_ex, G.mkL_t, G.mkL_n, G.o_sub, G.o_lt, G.o_le, G.o_gt, G.o_ge, G.o_add, G.o_neg, G.o_isN, G.o_isNI, G.o_isNT, G.o_isNL, G.o_isNR, G.o_isNB, G.o_isNS, G.o_is, G.o_ixT, G.o_ixL, G.o_ixS, G.at_0, G.at_1, G.o_lenL, G.o_lenT, G.o_lenC, G.o_lenS, G.o_max2, G.o_min2, G.o_intB, G.o_intI, G.o_listL, G.o_listT, G.o_listC, G.o_tupL, G.o_eqIt, G.o_eqIf, G.seq_lst, G.seq_scr, G.seq_ref, G.noRL_nil, G.noRL_cons, G.noR_non, G.noR_bl, G.noR_int, G.noR_str, G.noR_dic, G.noR_scr, G.noR_tup, G.noR_lst, G.isd_int, G.isd_intb, G.isd_bool, G.isd_boolb, G.isd_tup, G.isd_lst, G.isd_ref, G.live_lst, G.tgS_nm, G.tgS_tp2, List.getElem?_cons_zero, List.getElem?_cons_succ, List.set_cons_zero, List.set_cons_succ, List.length_cons, List.length_nil, List.nil_append, List.cons_append, Bool.and_true, Bool.true_and, Bool.and_self, Bool.not_true, Bool.not_false, decide_true, decide_false, Nat.reduceAdd, Int.reduceAdd, Int.reduceSub, Int.reduceMul, Int.reduceNeg, Int.cast_ofNat_Int, Int.natCast_zero, Int.natCast_one, eq_self, Int.reduceEq, Int.reduceLT, Int.reduceLE, hc]
    exact h
  by_cases q : c % 4 = 1
  · obtain ⟨cs, h⟩ := law_pairs (ns := ns) (L := L) (c := c) n1 n2
    exact ⟨cs, e cs (h q)⟩
  · obtain ⟨cs, h⟩ := law_end (ns := ns) (c := c) n1 n2 hL
    refine ⟨cs, e cs ?_⟩
    unfold r_law_5
    simp -implicitDefEqProofs only [↓G.e_seq, ↓G.e_skip, ↓G.e_asg, ↓G.e_drop, ↓G.e_ret, ↓G.e_raise, ↓G.e_raiseN, ↓G.e_if, ↓G.e_val, ↓G.e_not, ↓G.e_or, ↓G.e_and, ↓G.e_xand, ↓G.e_xor, ↓G.e_xnot, ↓G.e_var, ↓G.e_c, ↓G.e_bin, ↓G.e_un, ↓G.e_chain, ↓G.e_nil, ↓G.e_cons, ↓G.e_tup, ↓G.e_lst, ↓G.e_call, ↓G.e_callM, ↓G.e_callP, ↓G.e_callO, ↓G.e_for, ↓G.e_itSeq, ↓G.e_itTup, ↓G.e_itR1, ↓G.e_itR2, G.kk_ok, G.kk_ex, G.kF_nx, G.kF_rt, G.kF_ex, G.kI_t, G.kI_f, G.kT_nm, G.kT_tp2, G.kT_ex, G.kB_bl, G.kV_some, G.kO_some, G.kFor_ok, G.nX_n, G.nX_i, G.vB_bl, G.vT_t, G.kP_rt, G.kP_nx, G.kP_ex, G.kQ_some, G.kM_rt, G.kM_nx, G.kM_ex, G.kPO_ex, G.res_bl, G.res_int, G.res_str, G.res_non, G.thr_e, G.ret_e, G.up_ok, G.up_ex, G.upO_ok, G.upO_ex, G.mkL_t, G.mkL_n, G.o_sub, G.o_lt, G.o_le, G.o_gt, G.o_ge, G.o_add, G.o_neg, G.o_isN, G.o_isNI, G.o_isNT, G.o_isNL, G.o_isNR, G.o_isNB, G.o_isNS, G.o_is, G.o_ixT, G.o_ixL, G.o_ixS, G.at_0, G.at_1, G.o_lenL, G.o_lenT, G.o_lenC, G.o_lenS, G.o_max2, G.o_min2, G.o_intB, G.o_intI, G.o_listL, G.o_listT, G.o_listC, G.o_tupL, G.o_eqIt, G.o_eqIf, G.seq_lst, G.seq_scr, G.seq_ref, G.noRL_nil, G.noRL_cons, G.noR_non, G.noR_bl, G.noR_int, G.noR_str, G.noR_dic, G.noR_scr, G.noR_tup, G.noR_lst, G.isd_int, G.isd_intb, G.isd_bool, G.isd_boolb, G.isd_tup, G.isd_lst, G.isd_ref, G.live_lst, G.tgS_nm, G.tgS_tp2, List.getElem?_cons_zero, List.getElem?_cons_succ, List.set_cons_zero, List.set_cons_succ, List.length_cons, List.length_nil, List.nil_append, List.cons_append, Bool.and_true, Bool.true_and, Bool.and_self, Bool.not_true, Bool.not_false, decide_true, decide_false, Nat.reduceAdd, Int.reduceAdd, Int.reduceSub, Int.reduceMul, Int.reduceNeg, Int.cast_ofNat_Int, Int.natCast_zero, Int.natCast_one, eq_self, Int.reduceEq, Int.reduceLT, Int.reduceLE, o_mod (i := c) (j := 4) (by decide), q]
    exact h
/-- the law -/
theorem law_true (ns : List Int) (h : ns.length ≤ 63) : f_law [.scr ns] = .ok (.bl true) := by
  obtain ⟨a, ha⟩ := cell_at ns 0 (by decide)
  obtain ⟨b, hb⟩ := cell_at ns 1 (by decide)
  have a1 := Int.emod_nonneg a (b := 12) (by decide)
  have a2 := Int.emod_lt_of_pos a (b := 12) (by decide)
  have a3 := Int.emod_nonneg (a / 108) (b := 4) (by decide)
  have a4 := Int.emod_lt_of_pos (a / 108) (b := 4) (by decide)
  have b1 := Int.emod_nonneg b (b := 15) (by decide)
  have b2 := Int.emod_lt_of_pos b (b := 15) (by decide)
  have b3 := Int.emod_nonneg (b / 60) (b := 81) (by decide)
  have b4 := Int.emod_lt_of_pos (b / 60) (b := 81) (by decide)
  have tl : ∀ i : Int, 1 ≤ i → i ≤ 16 → ∃ cs, r_law_2 [some (.scr ns), some (.int i), none, none, none, none, none, none, none, none, none] [] = .ok (.rt (.bl true)) cs := fun i i1 i2 => by
    obtain ⟨n, rfl⟩ : ∃ n : Nat, i = (n : Int) := ⟨i.toNat, by omega⟩
    by_cases q : b / 15 % 4 = 1
    · obtain ⟨L, hL⟩ : ∃ L : Nat, b / 60 % 81 = (L : Int) := ⟨(b / 60 % 81).toNat, by omega⟩
      obtain ⟨cs, g⟩ := law_4 (ns := ns) (n := n) (L := L) (by omega) (by omega) (by omega)
      refine ⟨cs, ?_⟩
      unfold r_law_2
      simp -implicitDefEqProofs only [↓G.e_seq, ↓G.e_skip, ↓G.e_asg, ↓G.e_drop, ↓G.e_ret, ↓G.e_raise, ↓G.e_raiseN, ↓G.e_if, ↓G.e_val, ↓G.e_not, ↓G.e_or, ↓G.e_and, ↓G.e_xand, ↓G.e_xor, ↓G.e_xnot, ↓G.e_var, ↓G.e_c, ↓G.e_bin, ↓G.e_un, ↓G.e_chain, ↓G.e_nil, ↓G.e_cons, ↓G.e_tup, ↓G.e_lst, ↓G.e_call, ↓G.e_callM, ↓G.e_callP, ↓G.e_callO, ↓G.e_for, ↓G.e_itSeq, ↓G.e_itTup, ↓G.e_itR1, ↓G.e_itR2, G.kk_ok, G.kk_ex, G.kF_nx, G.kF_rt, G.kF_ex, G.kI_t, G.kI_f, G.kT_nm, G.kT_tp2, G.kT_ex, G.kB_bl, G.kV_some, G.kO_some, G.kFor_ok, G.nX_n, G.nX_i, G.vB_bl, G.vT_t, G.kP_rt, G.kP_nx, G.kP_ex, G.kQ_some, G.kM_rt, G.kM_nx, G.kM_ex, G.kPO_ex, G.res_bl, G.res_int, G.res_str, G.res_non, G.thr_e, G.ret_e, G.up_ok, G.up_ex, G.upO_ok, G.upO_ex, G.mkL_t, G.mkL_n, G.o_sub, G.o_lt, G.o_le, G.o_gt, G.o_ge, G.o_add, G.o_neg, G.o_isN, G.o_isNI, G.o_isNT, G.o_isNL, G.o_isNR, G.o_isNB, G.o_isNS, G.o_is, G.o_ixT, G.o_ixL, G.o_ixS, G.at_0, G.at_1, G.o_lenL, G.o_lenT, G.o_lenC, G.o_lenS, G.o_max2, G.o_min2, G.o_intB, G.o_intI, G.o_listL, G.o_listT, G.o_listC, G.o_tupL, G.o_eqIt, G.o_eqIf, G.seq_lst, G.seq_scr, G.seq_ref, G.noRL_nil, G.noRL_cons, G.noR_non, G.noR_bl, G.noR_int, G.noR_str, G.noR_dic, G.noR_scr, G.noR_tup, G.noR_lst, G.isd_int, G.isd_intb, G.isd_bool, G.isd_boolb, G.isd_tup, G.isd_lst, G.isd_ref, G.live_lst, G.tgS_nm, G.tgS_tp2, List.getElem?_cons_zero, List.getElem?_cons_succ, List.set_cons_zero, List.set_cons_succ, List.length_cons, List.length_nil, List.nil_append, List.cons_append, Bool.and_true, Bool.true_and, Bool.and_self, Bool.not_true, Bool.not_false, decide_true, decide_false, Nat.reduceAdd, Int.reduceAdd, Int.reduceSub, Int.reduceMul, Int.reduceNeg, Int.cast_ofNat_Int, Int.natCast_zero, Int.natCast_one, eq_self, Int.reduceEq, Int.reduceLT, Int.reduceLE, hb, o_mod (i := b) (j := 15) (by decide), r_law_3, o_div (i := b) (j := 15) (by decide) (by decide), o_mod (i := b / 15) (j := 4) (by decide), q, o_div (i := b) (j := 60) (by decide) (by decide), o_mod (i := b / 60) (j := 81) (by decide), hL]
      exact g
    · obtain ⟨L, hL⟩ : ∃ L : Nat, b % 15 = (L : Int) := ⟨(b % 15).toNat, by omega⟩
      obtain ⟨cs, g⟩ := law_4 (ns := ns) (n := n) (L := L) (by omega) (by omega) (by omega)
      refine ⟨cs, ?_⟩
      unfold r_law_2
      simp -implicitDefEqProofs only [↓G.e_seq, ↓G.e_skip, ↓G.e_asg, ↓G.e_drop, ↓G.e_ret, ↓G.e_raise, ↓G.e_raiseN, ↓G.e_if, ↓G.e_val, ↓G.e_not, ↓G.e_or, ↓G.e_and, ↓G.e_xand, ↓G.e_xor, ↓G.e_xnot, ↓G.e_var, ↓G.e_c, ↓G.e_bin, ↓G.e_un, ↓G.e_chain, ↓G.e_nil, ↓G.e_cons, ↓G.e_tup, ↓G.e_lst, ↓G.e_call, ↓G.e_callM, ↓G.e_callP, ↓G.e_callO, ↓G.e_for, ↓G.e_itSeq, ↓G.e_itTup, ↓G.e_itR1, ↓G.e_itR2, G.kk_ok, G.kk_ex, G.kF_nx, G.kF_rt, G.kF_ex, G.kI_t, G.kI_f, G.kT_nm, G.kT_tp2, G.kT_ex, G.kB_bl, G.kV_some, G.kO_some, G.kFor_ok, G.nX_n, G.nX_i, G.vB_bl, G.vT_t, G.kP_rt, G.kP_nx, G.kP_ex, G.kQ_some, G.kM_rt, G.kM_nx, G.kM_ex, G.kPO_ex, G.res_bl, G.res_int, G.res_str, G.res_non, G.thr_e, G.ret_e, G.up_ok, G.up_ex, G.upO_ok, G.upO_ex, G.mkL_t, G.mkL_n, G.o_sub, G.o_lt, G.o_le, G.o_gt, G.o_ge, G.o_add, G.o_neg, G.o_isN, G.o_isNI, G.o_isNT, G.o_isNL, G.o_isNR, G.o_isNB, G.o_isNS, G.o_is, G.o_ixT, G.o_ixL, G.o_ixS, G.at_0, G.at_1, G.o_lenL, G.o_lenT, G.o_lenC, G.o_lenS, G.o_max2, G.o_min2, G.o_intB, G.o_intI, G.o_listL, G.o_listT, G.o_listC, G.o_tupL, G.o_eqIt, G.o_eqIf, G.seq_lst, G.seq_scr, G.seq_ref, G.noRL_nil, G.noRL_cons, G.noR_non, G.noR_bl, G.noR_int, G.noR_str, G.noR_dic, G.noR_scr, G.noR_tup, G.noR_lst, G.isd_int, G.isd_intb, G.isd_bool, G.isd_boolb, G.isd_tup, G.isd_lst, G.isd_ref, G.live_lst, G.tgS_nm, G.tgS_tp2, List.getElem?_cons_zero, List.getElem?_cons_succ, List.set_cons_zero, List.set_cons_succ, List.length_cons, List.length_nil, List.nil_append, List.cons_append, Bool.and_true, Bool.true_and, Bool.and_self, Bool.not_true, Bool.not_false, decide_true, decide_false, Nat.reduceAdd, Int.reduceAdd, Int.reduceSub, Int.reduceMul, Int.reduceNeg, Int.cast_ofNat_Int, Int.natCast_zero, Int.natCast_one, eq_self, Int.reduceEq, Int.reduceLT, Int.reduceLE, hb, o_mod (i := b) (j := 15) (by decide), r_law_3, o_div (i := b) (j := 15) (by decide) (by decide), o_mod (i := b / 15) (j := 4) (by decide), q, hL]
      exact g
  rw [F_law]
  unfold c_law
  by_cases q : a / 12 % 9 = 1
  · obtain ⟨cs, g⟩ := tl (13 + a / 108 % 4) (by omega) (by omega)
    simp -implicitDefEqProofs only [↓G.e_seq, ↓G.e_skip, ↓G.e_asg, ↓G.e_drop, ↓G.e_ret, ↓G.e_raise, ↓G.e_raiseN, ↓G.e_if, ↓G.e_val, ↓G.e_not, ↓G.e_or, ↓G.e_and, ↓G.e_xand, ↓G.e_xor, ↓G.e_xnot, ↓G.e_var, ↓G.e_c, ↓G.e_bin, ↓G.e_un, ↓G.e_chain, ↓G.e_nil, ↓G.e_cons, ↓G.e_tup, ↓G.e_lst, ↓G.e_call, ↓G.e_callM, ↓G.e_callP, ↓G.e_callO, ↓G.e_for, ↓G.e_itSeq, ↓G.e_itTup, ↓G.e_itR1, ↓G.e_itR2, G.kk_ok, G.kk_ex, G.kF_nx, G.kF_rt, G.kF_ex, G.kI_t, G.kI_f, G.kT_nm, G.kT_tp2, G.kT_ex, G.kB_bl, G.kV_some, G.kO_some, G.kFor_ok, G.nX_n, G.nX_i, G.vB_bl, G.vT_t, G.kP_rt, G.kP_nx, G.kP_ex, G.kQ_some, G.kM_rt, G.kM_nx, G.kM_ex, G.kPO_ex, G.res_bl, G.res_int, G.res_str, G.res_non, G.thr_e, G.ret_e, G.up_ok, G.up_ex, G.upO_ok, G.upO_ex, G.mkL_t, G.mkL_n, G.o_sub, G.o_lt, G.o_le, G.o_gt, G.o_ge, G.o_add, G.o_neg, G.o_isN, G.o_isNI, G.o_isNT, G.o_isNL, G.o_isNR, G.o_isNB, G.o_isNS, G.o_is, G.o_ixT, G.o_ixL, G.o_ixS, G.at_0, G.at_1, G.o_lenL, G.o_lenT, G.o_lenC, G.o_lenS, G.o_max2, G.o_min2, G.o_intB, G.o_intI, G.o_listL, G.o_listT, G.o_listC, G.o_tupL, G.o_eqIt, G.o_eqIf, G.seq_lst, G.seq_scr, G.seq_ref, G.noRL_nil, G.noRL_cons, G.noR_non, G.noR_bl, G.noR_int, G.noR_str, G.noR_dic, G.noR_scr, G.noR_tup, G.noR_lst, G.isd_int, G.isd_intb, G.isd_bool, G.isd_boolb, G.isd_tup, G.isd_lst, G.isd_ref, G.live_lst, G.tgS_nm, G.tgS_tp2, List.getElem?_cons_zero, List.getElem?_cons_succ, List.set_cons_zero, List.set_cons_succ, List.length_cons, List.length_nil, List.nil_append, List.cons_append, Bool.and_true, Bool.true_and, Bool.and_self, Bool.not_true, Bool.not_false, decide_true, decide_false, Nat.reduceAdd, Int.reduceAdd, Int.reduceSub, Int.reduceMul, Int.reduceNeg, Int.cast_ofNat_Int, Int.natCast_zero, Int.natCast_one, eq_self, Int.reduceEq, Int.reduceLT, Int.reduceLE, ha, o_mod (i := a) (j := 12) (by decide), r_law_1, o_div (i := a) (j := 12) (by decide) (by decide), o_mod (i := a / 12) (j := 9) (by decide), q, o_div (i := a) (j := 108) (by decide) (by decide), o_mod (i := a / 108) (j := 4) (by decide), g]
  · obtain ⟨cs, g⟩ := tl (1 + a % 12) (by omega) (by omega)
    simp -implicitDefEqProofs only [↓G.e_seq, ↓G.e_skip, ↓G.e_asg, ↓G.e_drop, ↓G.e_ret, ↓G.e_raise, ↓G.e_raiseN, ↓G.e_if, ↓G.e_val, ↓G.e_not, ↓G.e_or, ↓G.e_and, ↓G.e_xand, ↓G.e_xor, ↓G.e_xnot, ↓G.e_var, ↓G.e_c, ↓G.e_bin, ↓G.e_un, ↓G.e_chain, ↓G.e_nil, ↓G.e_cons, ↓G.e_tup, ↓G.e_lst, ↓G.e_call, ↓G.e_callM, ↓G.e_callP, ↓G.e_callO, ↓G.e_for, ↓G.e_itSeq, ↓G.e_itTup, ↓G.e_itR1, ↓G.e_itR2, G.kk_ok, G.kk_ex, G.kF_nx, G.kF_rt, G.kF_ex, G.kI_t, G.kI_f, G.kT_nm, G.kT_tp2, G.kT_ex, G.kB_bl, G.kV_some, G.kO_some, G.kFor_ok, G.nX_n, G.nX_i, G.vB_bl, G.vT_t, G.kP_rt, G.kP_nx, G.kP_ex, G.kQ_some, G.kM_rt, G.kM_nx, G.kM_ex, G.kPO_ex, G.res_bl, G.res_int, G.res_str, G.res_non, G.thr_e, G.ret_e, G.up_ok, G.up_ex, G.upO_ok, G.upO_ex, G.mkL_t, G.mkL_n, G.o_sub, G.o_lt, G.o_le, G.o_gt, G.o_ge, G.o_add, G.o_neg, G.o_isN, G.o_isNI, G.o_isNT, G.o_isNL, G.o_isNR, G.o_isNB, G.o_isNS, G.o_is, G.o_ixT, G.o_ixL, G.o_ixS, G.at_0, G.at_1, G.o_lenL, G.o_lenT, G.o_lenC, G.o_lenS, G.o_max2, G.o_min2, G.o_intB, G.o_intI, G.o_listL, G.o_listT, G.o_listC, G.o_tupL, G.o_eqIt, G.o_eqIf, G.seq_lst, G.seq_scr, G.seq_ref, G.noRL_nil, G.noRL_cons, G.noR_non, G.noR_bl, G.noR_int, G.noR_str, G.noR_dic, G.noR_scr, G.noR_tup, G.noR_lst, G.isd_int, G.isd_intb, G.isd_bool, G.isd_boolb, G.isd_tup, G.isd_lst, G.isd_ref, G.live_lst, G.tgS_nm, G.tgS_tp2, List.getElem?_cons_zero, List.getElem?_cons_succ, List.set_cons_zero, List.set_cons_succ, List.length_cons, List.length_nil, List.nil_append, List.cons_append, Bool.and_true, Bool.true_and, Bool.and_self, Bool.not_true, Bool.not_false, decide_true, decide_false, Nat.reduceAdd, Int.reduceAdd, Int.reduceSub, Int.reduceMul, Int.reduceNeg, Int.cast_ofNat_Int, Int.natCast_zero, Int.natCast_one, eq_self, Int.reduceEq, Int.reduceLT, Int.reduceLE, ha, o_mod (i := a) (j := 12) (by decide), r_law_1, o_div (i := a) (j := 12) (by decide) (by decide), o_mod (i := a / 12) (j := 9) (by decide), q, g]
end LK
namespace LK
open L2 G PySem PySem.Spec PyProof.Rows
section
def dd_is_whole : He.DefD := ⟨("is_whole", none), "is_whole", "is_whole", defArgs s_is_whole, defBody s_is_whole, defScope s_is_whole, [], []⟩
def dd_is_among : He.DefD := ⟨("is_among", none), "is_among", "is_among", defArgs s_is_among, defBody s_is_among, defScope s_is_among, [], []⟩
def dd_need_lines : He.DefD := ⟨("need_lines", none), "need_lines", "need_lines", defArgs s_need_lines, defBody s_need_lines, defScope s_need_lines, [], []⟩
def dd_moved_up : He.DefD := ⟨("moved_up", none), "moved_up", "moved_up", defArgs s_moved_up, defBody s_moved_up, defScope s_moved_up, [], []⟩
def dd_side_by_side : He.DefD := ⟨("side_by_side", none), "side_by_side", "side_by_side", defArgs s_side_by_side, defBody s_side_by_side, defScope s_side_by_side, [], []⟩
def dd_put_behind : He.DefD := ⟨("put_behind", none), "put_behind", "put_behind", defArgs s_put_behind, defBody s_put_behind, defScope s_put_behind, [], []⟩
def dd_parted : He.DefD := ⟨("parted", none), "parted", "parted", defArgs s_parted, defBody s_parted, defScope s_parted, [], []⟩
def dd_next_row : He.DefD := ⟨("next_row", none), "next_row", "next_row", defArgs s_next_row, defBody s_next_row, defScope s_next_row, [], []⟩
def dd_table_of : He.DefD := ⟨("table_of", none), "table_of", "table_of", defArgs s_table_of, defBody s_table_of, defScope s_table_of, [], []⟩
def dd_need_wish : He.DefD := ⟨("need_wish", none), "need_wish", "need_wish", defArgs s_need_wish, defBody s_need_wish, defScope s_need_wish, [], []⟩
def dd_fewest : He.DefD := ⟨("fewest", none), "fewest", "fewest", defArgs s_fewest, defBody s_fewest, defScope s_fewest, [], []⟩
def dd_laid : He.DefD := ⟨("laid", none), "laid", "laid", defArgs s_laid, defBody s_laid, defScope s_laid, [], []⟩
def dd_thrifty : He.DefD := ⟨("thrifty", none), "thrifty", "thrifty", defArgs s_thrifty, defBody s_thrifty, defScope s_thrifty, [], []⟩
def dd__law_cell_at : He.DefD := ⟨("_law_cell_at", none), "_law_cell_at", "_law_cell_at", defArgs s__law_cell_at, defBody s__law_cell_at, defScope s__law_cell_at, [], []⟩
def dd__law_whole : He.DefD := ⟨("_law_whole", none), "_law_whole", "_law_whole", defArgs s__law_whole, defBody s__law_whole, defScope s__law_whole, [], []⟩
def dd__law_word : He.DefD := ⟨("_law_word", none), "_law_word", "_law_word", defArgs s__law_word, defBody s__law_word, defScope s__law_word, [], []⟩
def dd__law_tried : He.DefD := ⟨("_law_tried", none), "_law_tried", "_law_tried", defArgs s__law_tried, defBody s__law_tried, defScope s__law_tried, [], []⟩
def dd__law_least : He.DefD := ⟨("_law_least", none), "_law_least", "_law_least", defArgs s__law_least, defBody s__law_least, defScope s__law_least, [], []⟩
def dd__law_reach : He.DefD := ⟨("_law_reach", none), "_law_reach", "_law_reach", defArgs s__law_reach, defBody s__law_reach, defScope s__law_reach, [], []⟩
def dd__law_is_net : He.DefD := ⟨("_law_is_net", none), "_law_is_net", "_law_is_net", defArgs s__law_is_net, defBody s__law_is_net, defScope s__law_is_net, [], []⟩
def dd__law_parts : He.DefD := ⟨("_law_parts", none), "_law_parts", "_law_parts", defArgs s__law_parts, defBody s__law_parts, defScope s__law_parts, [], []⟩
def dd__law_by_rule : He.DefD := ⟨("_law_by_rule", none), "_law_by_rule", "_law_by_rule", defArgs s__law_by_rule, defBody s__law_by_rule, defScope s__law_by_rule, [], []⟩
def dd__law_rows : He.DefD := ⟨("_law_rows", none), "_law_rows", "_law_rows", defArgs s__law_rows, defBody s__law_rows, defScope s__law_rows, [], []⟩
def dd_law : He.DefD := ⟨("law", none), "law", "law", defArgs s_law, defBody s_law, defScope s_law, [], []⟩
def fn0 : List He.DefD := [dd_is_whole, dd_is_among, dd_need_lines, dd_moved_up, dd_side_by_side, dd_put_behind, dd_parted, dd_next_row, dd_table_of, dd_need_wish, dd_fewest, dd_laid, dd_thrifty, dd__law_cell_at, dd__law_whole, dd__law_word, dd__law_tried, dd__law_least, dd__law_reach, dd__law_is_net, dd__law_parts, dd__law_by_rule, dd__law_rows, dd_law]
def fn : List He.DefD := fn0
def fa0 : List He.Fa := [.glo "is_whole", .glo "is_among", .glo "need_lines", .glo "moved_up", .glo "side_by_side", .glo "put_behind", .glo "parted", .glo "next_row", .glo "table_of", .glo "need_wish", .glo "fewest", .glo "laid", .glo "thrifty", .glo "_law_cell_at", .glo "_law_whole", .glo "_law_word", .glo "_law_tried", .glo "_law_least", .glo "_law_reach", .glo "_law_is_net", .glo "_law_parts", .glo "_law_by_rule", .glo "_law_rows", .glo "law", .glo "BadLines"]
def fa1 : List He.Fa := [.exc "BadLines", .glo "BadThing", .exc "BadThing", .glo "BadKind", .exc "BadKind", .glo "NoNet", .exc "NoNet", .glo "NetError", .glo "BadNet", .free "len", .free "isinstance", .free "range", .free "int", .free "bool", .free "str", .free "tuple", .free "list", .free "max", .free "min", .free "sum", .free "all", .free "sorted", .free "reversed", .free "zip", .free "abs"]
def fa2 : List He.Fa := [.free "ValueError", .int "MOST_LINES" 64, .int "MOST_LAYERS" 80]
def fa : List He.Fa := fa0 ++ fa1 ++ fa2
abbrev R : PySem.W.OpenRow := PySem.W.OpenLaw.row PySem.Challenge.rw_beginnet_k06_fewest_joints
def exB (K : PySem.W.Frag) : Bool := xtB K && true
abbrev hk : PySem.W.Hook := hookX 5 fa fn exB
def ob (s : PySem.W.SharedT) : AlX := obsXG 5 fa fn exB (HandSHeadRun.getT s)
theorem ob_eq (s : PySem.W.SharedT) : ob s = hk.obs s.abs := obsXG_eq (HandSHeadRun.getT_eq s)
def loose0 : List PySem.Str := ["NetError", "BadNet", "BadLines", "BadThing", "BadKind", "NoNet", "is_whole", "is_among", "MOST_LINES", "MOST_LAYERS", "need_lines", "moved_up", "side_by_side", "put_behind", "parted", "next_row", "table_of", "need_wish", "fewest", "laid", "thrifty", "_law_cell_at", "_law_whole", "_law_word", "_law_tried"]
def loose1 : List PySem.Str := ["_law_least", "_law_reach", "_law_is_net", "_law_parts", "_law_by_rule", "_law_rows"]
def loose : List PySem.Str := loose0 ++ loose1
theorem run (w : World) : HandSHeadRun.RunEq R (PySem.W.view R.prog [37]) hk ob 6000 loose w := by
  intro os
  kernel_rfl
theorem bt_of {K : PySem.W.Frag} {h : Heap} {mg : Str → Option Value} (X : K.In h) (Gn : h.Ns mainGlobals mg) (c : He.SaysD fa fn K) (cx : exB K = true) : Bt K mg (ctOf K) where
  len := He.free_ok X Gn (c.fact 34 (f := .free "len") rfl)
  isinstance := He.free_ok X Gn (c.fact 35 (f := .free "isinstance") rfl)
  range := He.free_ok X Gn (c.fact 36 (f := .free "range") rfl)
  int := He.free_ok X Gn (c.fact 37 (f := .free "int") rfl)
  bool := He.free_ok X Gn (c.fact 38 (f := .free "bool") rfl)
  str := He.free_ok X Gn (c.fact 39 (f := .free "str") rfl)
  tuple := He.free_ok X Gn (c.fact 40 (f := .free "tuple") rfl)
  list := He.free_ok X Gn (c.fact 41 (f := .free "list") rfl)
  max := He.free_ok X Gn (c.fact 42 (f := .free "max") rfl)
  min := He.free_ok X Gn (c.fact 43 (f := .free "min") rfl)
  sum := He.free_ok X Gn (c.fact 44 (f := .free "sum") rfl)
  all := He.free_ok X Gn (c.fact 45 (f := .free "all") rfl)
  sorted := He.free_ok X Gn (c.fact 46 (f := .free "sorted") rfl)
  reversed := He.free_ok X Gn (c.fact 47 (f := .free "reversed") rfl)
  zip := He.free_ok X Gn (c.fact 48 (f := .free "zip") rfl)
  abs := He.free_ok X Gn (c.fact 49 (f := .free "abs") rfl)
  x_lines := by
    obtain ⟨e1, e2, e3, e4⟩ := He.exc_ok (c.fact 25 (f := .exc "BadLines") rfl)
    exact ⟨e1, He.glo_ok X Gn (c.fact 24 (f := .glo "BadLines") rfl), e2, e3, e4⟩
  x_thing := by
    obtain ⟨e1, e2, e3, e4⟩ := He.exc_ok (c.fact 27 (f := .exc "BadThing") rfl)
    exact ⟨e1, He.glo_ok X Gn (c.fact 26 (f := .glo "BadThing") rfl), e2, e3, e4⟩
  x_kind := by
    obtain ⟨e1, e2, e3, e4⟩ := He.exc_ok (c.fact 29 (f := .exc "BadKind") rfl)
    exact ⟨e1, He.glo_ok X Gn (c.fact 28 (f := .glo "BadKind") rfl), e2, e3, e4⟩
  x_nonet := by
    obtain ⟨e1, e2, e3, e4⟩ := He.exc_ok (c.fact 31 (f := .exc "NoNet") rfl)
    exact ⟨e1, He.glo_ok X Gn (c.fact 30 (f := .glo "NoNet") rfl), e2, e3, e4⟩
  c_MOST_LINES := He.int_ok X Gn (c.fact 51 (f := .int "MOST_LINES" 64) rfl)
  c_MOST_LAYERS := He.int_ok X Gn (c.fact 52 (f := .int "MOST_LAYERS" 80) rfl)
theorem facts {P : Program} {w : World} {K : PySem.W.Frag} {h : Heap} {mg : Str → Option Value} {f : Addr} (X : K.In h) (Gn : h.Ns mainGlobals mg) (hfa : mg ("law" : Str) = some (.ref f)) (c : He.SaysD fa fn K) (cx : exB K = true) :
    ∃ fd : FuncData, (∀ (s : Shared) (v : Value), BindsTo s fd ⟨[v], []⟩ [("_law_script", v)]) ∧ ∀ base : Heap, K.In base → base.Ns mainGlobals mg → FnOk P w K mg base (L2.CX P w) 25 f fd ["_law_script"] (spP K (ctOf K) 1 f_law) := by
  have B := bt_of X Gn c cx
  have T := xtB_ok X Gn (c.fact 32 (f := .glo "NetError") rfl) (c.fact 33 (f := .glo "BadNet") rfl) (c.fact 50 (f := .free "ValueError") rfl) (He.ba cx).1
  obtain ⟨fd_is_whole, F_is_whole⟩ := c.def_ 0 (d := dd_is_whole) rfl
  have E_is_whole : ∃ fa fd, mg "is_whole" = some (.ref fa) ∧ FunG K "is_whole" s_is_whole fa fd := ⟨_, fd_is_whole, He.glo_ok X Gn (c.fact 0 (f := .glo "is_whole") rfl), F_is_whole⟩
  obtain ⟨fd_is_among, F_is_among⟩ := c.def_ 1 (d := dd_is_among) rfl
  have E_is_among : ∃ fa fd, mg "is_among" = some (.ref fa) ∧ FunG K "is_among" s_is_among fa fd := ⟨_, fd_is_among, He.glo_ok X Gn (c.fact 1 (f := .glo "is_among") rfl), F_is_among⟩
  obtain ⟨fd_need_lines, F_need_lines⟩ := c.def_ 2 (d := dd_need_lines) rfl
  have E_need_lines : ∃ fa fd, mg "need_lines" = some (.ref fa) ∧ FunG K "need_lines" s_need_lines fa fd := ⟨_, fd_need_lines, He.glo_ok X Gn (c.fact 2 (f := .glo "need_lines") rfl), F_need_lines⟩
  obtain ⟨fd_moved_up, F_moved_up⟩ := c.def_ 3 (d := dd_moved_up) rfl
  have E_moved_up : ∃ fa fd, mg "moved_up" = some (.ref fa) ∧ FunG K "moved_up" s_moved_up fa fd := ⟨_, fd_moved_up, He.glo_ok X Gn (c.fact 3 (f := .glo "moved_up") rfl), F_moved_up⟩
  obtain ⟨fd_side_by_side, F_side_by_side⟩ := c.def_ 4 (d := dd_side_by_side) rfl
  have E_side_by_side : ∃ fa fd, mg "side_by_side" = some (.ref fa) ∧ FunG K "side_by_side" s_side_by_side fa fd := ⟨_, fd_side_by_side, He.glo_ok X Gn (c.fact 4 (f := .glo "side_by_side") rfl), F_side_by_side⟩
  obtain ⟨fd_put_behind, F_put_behind⟩ := c.def_ 5 (d := dd_put_behind) rfl
  have E_put_behind : ∃ fa fd, mg "put_behind" = some (.ref fa) ∧ FunG K "put_behind" s_put_behind fa fd := ⟨_, fd_put_behind, He.glo_ok X Gn (c.fact 5 (f := .glo "put_behind") rfl), F_put_behind⟩
  obtain ⟨fd_parted, F_parted⟩ := c.def_ 6 (d := dd_parted) rfl
  have E_parted : ∃ fa fd, mg "parted" = some (.ref fa) ∧ FunG K "parted" s_parted fa fd := ⟨_, fd_parted, He.glo_ok X Gn (c.fact 6 (f := .glo "parted") rfl), F_parted⟩
  obtain ⟨fd_next_row, F_next_row⟩ := c.def_ 7 (d := dd_next_row) rfl
  have E_next_row : ∃ fa fd, mg "next_row" = some (.ref fa) ∧ FunG K "next_row" s_next_row fa fd := ⟨_, fd_next_row, He.glo_ok X Gn (c.fact 7 (f := .glo "next_row") rfl), F_next_row⟩
  obtain ⟨fd_table_of, F_table_of⟩ := c.def_ 8 (d := dd_table_of) rfl
  have E_table_of : ∃ fa fd, mg "table_of" = some (.ref fa) ∧ FunG K "table_of" s_table_of fa fd := ⟨_, fd_table_of, He.glo_ok X Gn (c.fact 8 (f := .glo "table_of") rfl), F_table_of⟩
  obtain ⟨fd_need_wish, F_need_wish⟩ := c.def_ 9 (d := dd_need_wish) rfl
  have E_need_wish : ∃ fa fd, mg "need_wish" = some (.ref fa) ∧ FunG K "need_wish" s_need_wish fa fd := ⟨_, fd_need_wish, He.glo_ok X Gn (c.fact 9 (f := .glo "need_wish") rfl), F_need_wish⟩
  obtain ⟨fd_fewest, F_fewest⟩ := c.def_ 10 (d := dd_fewest) rfl
  have E_fewest : ∃ fa fd, mg "fewest" = some (.ref fa) ∧ FunG K "fewest" s_fewest fa fd := ⟨_, fd_fewest, He.glo_ok X Gn (c.fact 10 (f := .glo "fewest") rfl), F_fewest⟩
  obtain ⟨fd_laid, F_laid⟩ := c.def_ 11 (d := dd_laid) rfl
  have E_laid : ∃ fa fd, mg "laid" = some (.ref fa) ∧ FunG K "laid" s_laid fa fd := ⟨_, fd_laid, He.glo_ok X Gn (c.fact 11 (f := .glo "laid") rfl), F_laid⟩
  obtain ⟨fd_thrifty, F_thrifty⟩ := c.def_ 12 (d := dd_thrifty) rfl
  have E_thrifty : ∃ fa fd, mg "thrifty" = some (.ref fa) ∧ FunG K "thrifty" s_thrifty fa fd := ⟨_, fd_thrifty, He.glo_ok X Gn (c.fact 12 (f := .glo "thrifty") rfl), F_thrifty⟩
  obtain ⟨fd__law_cell_at, F__law_cell_at⟩ := c.def_ 13 (d := dd__law_cell_at) rfl
  have E__law_cell_at : ∃ fa fd, mg "_law_cell_at" = some (.ref fa) ∧ FunG K "_law_cell_at" s__law_cell_at fa fd := ⟨_, fd__law_cell_at, He.glo_ok X Gn (c.fact 13 (f := .glo "_law_cell_at") rfl), F__law_cell_at⟩
  obtain ⟨fd__law_whole, F__law_whole⟩ := c.def_ 14 (d := dd__law_whole) rfl
  have E__law_whole : ∃ fa fd, mg "_law_whole" = some (.ref fa) ∧ FunG K "_law_whole" s__law_whole fa fd := ⟨_, fd__law_whole, He.glo_ok X Gn (c.fact 14 (f := .glo "_law_whole") rfl), F__law_whole⟩
  obtain ⟨fd__law_word, F__law_word⟩ := c.def_ 15 (d := dd__law_word) rfl
  have E__law_word : ∃ fa fd, mg "_law_word" = some (.ref fa) ∧ FunG K "_law_word" s__law_word fa fd := ⟨_, fd__law_word, He.glo_ok X Gn (c.fact 15 (f := .glo "_law_word") rfl), F__law_word⟩
  obtain ⟨fd__law_tried, F__law_tried⟩ := c.def_ 16 (d := dd__law_tried) rfl
  have E__law_tried : ∃ fa fd, mg "_law_tried" = some (.ref fa) ∧ FunG K "_law_tried" s__law_tried fa fd := ⟨_, fd__law_tried, He.glo_ok X Gn (c.fact 16 (f := .glo "_law_tried") rfl), F__law_tried⟩
  obtain ⟨fd__law_least, F__law_least⟩ := c.def_ 17 (d := dd__law_least) rfl
  have E__law_least : ∃ fa fd, mg "_law_least" = some (.ref fa) ∧ FunG K "_law_least" s__law_least fa fd := ⟨_, fd__law_least, He.glo_ok X Gn (c.fact 17 (f := .glo "_law_least") rfl), F__law_least⟩
  obtain ⟨fd__law_reach, F__law_reach⟩ := c.def_ 18 (d := dd__law_reach) rfl
  have E__law_reach : ∃ fa fd, mg "_law_reach" = some (.ref fa) ∧ FunG K "_law_reach" s__law_reach fa fd := ⟨_, fd__law_reach, He.glo_ok X Gn (c.fact 18 (f := .glo "_law_reach") rfl), F__law_reach⟩
  obtain ⟨fd__law_is_net, F__law_is_net⟩ := c.def_ 19 (d := dd__law_is_net) rfl
  have E__law_is_net : ∃ fa fd, mg "_law_is_net" = some (.ref fa) ∧ FunG K "_law_is_net" s__law_is_net fa fd := ⟨_, fd__law_is_net, He.glo_ok X Gn (c.fact 19 (f := .glo "_law_is_net") rfl), F__law_is_net⟩
  obtain ⟨fd__law_parts, F__law_parts⟩ := c.def_ 20 (d := dd__law_parts) rfl
  have E__law_parts : ∃ fa fd, mg "_law_parts" = some (.ref fa) ∧ FunG K "_law_parts" s__law_parts fa fd := ⟨_, fd__law_parts, He.glo_ok X Gn (c.fact 20 (f := .glo "_law_parts") rfl), F__law_parts⟩
  obtain ⟨fd__law_by_rule, F__law_by_rule⟩ := c.def_ 21 (d := dd__law_by_rule) rfl
  have E__law_by_rule : ∃ fa fd, mg "_law_by_rule" = some (.ref fa) ∧ FunG K "_law_by_rule" s__law_by_rule fa fd := ⟨_, fd__law_by_rule, He.glo_ok X Gn (c.fact 21 (f := .glo "_law_by_rule") rfl), F__law_by_rule⟩
  obtain ⟨fd__law_rows, F__law_rows⟩ := c.def_ 22 (d := dd__law_rows) rfl
  have E__law_rows : ∃ fa fd, mg "_law_rows" = some (.ref fa) ∧ FunG K "_law_rows" s__law_rows fa fd := ⟨_, fd__law_rows, He.glo_ok X Gn (c.fact 22 (f := .glo "_law_rows") rfl), F__law_rows⟩
  obtain ⟨fd_law, F_law⟩ := c.def_ 23 (d := dd_law) rfl
  have E_law : ∃ fa fd, mg "law" = some (.ref fa) ∧ FunG K "law" s_law fa fd := ⟨_, fd_law, He.glo_ok X Gn (c.fact 23 (f := .glo "law") rfl), F_law⟩
  have e := hfa.symm.trans (He.glo_ok X Gn (c.fact 23 (f := .glo "law") rfl))
  cases e
  have b := FunD.bindsA (ps := ["_law_script"]) F_law fun _ _ _ _ _ _ us hl => match us, hl with | [_], _ => rfl
  refine ⟨fd_law, fun s v => b s [v] rfl, fun base _ _ => ?_⟩
  have H_is_whole := d_is_whole (P := P) (w := w) (base := base) E_is_whole B T ⟨trivial⟩
  have H_moved_up := d_moved_up (P := P) (w := w) (base := base) E_moved_up B T ⟨trivial⟩
  have H_side_by_side := d_side_by_side (P := P) (w := w) (base := base) E_side_by_side B T ⟨trivial⟩
  have H_parted := d_parted (P := P) (w := w) (base := base) E_parted B T ⟨trivial⟩
  have H__law_cell_at := d__law_cell_at (P := P) (w := w) (base := base) E__law_cell_at B T ⟨trivial⟩
  have H__law_whole := d__law_whole (P := P) (w := w) (base := base) E__law_whole B T ⟨trivial⟩
  have H__law_word := d__law_word (P := P) (w := w) (base := base) E__law_word B T ⟨trivial⟩
  have H__law_least := d__law_least (P := P) (w := w) (base := base) E__law_least B T ⟨trivial⟩
  have H__law_reach := d__law_reach (P := P) (w := w) (base := base) E__law_reach B T ⟨trivial⟩
  have H__law_parts := d__law_parts (P := P) (w := w) (base := base) E__law_parts B T ⟨trivial⟩
  have H__law_rows := d__law_rows (P := P) (w := w) (base := base) E__law_rows B T ⟨trivial⟩
  have H_is_among := d_is_among (P := P) (w := w) (base := base) E_is_among B T ⟨H_is_whole, trivial⟩
  have H_put_behind := d_put_behind (P := P) (w := w) (base := base) E_put_behind B T ⟨H_moved_up, H_side_by_side, trivial⟩
  have H_next_row := d_next_row (P := P) (w := w) (base := base) E_next_row B T ⟨H_parted, trivial⟩
  have H__law_is_net := d__law_is_net (P := P) (w := w) (base := base) E__law_is_net B T ⟨H__law_whole, trivial⟩
  have H__law_by_rule := d__law_by_rule (P := P) (w := w) (base := base) E__law_by_rule B T ⟨H__law_parts, trivial⟩
  have H_need_lines := d_need_lines (P := P) (w := w) (base := base) E_need_lines B T ⟨H_is_among, trivial⟩
  have H_table_of := d_table_of (P := P) (w := w) (base := base) E_table_of B T ⟨H_next_row, trivial⟩
  have H_need_wish := d_need_wish (P := P) (w := w) (base := base) E_need_wish B T ⟨H_need_lines, H_is_among, trivial⟩
  have H_fewest := d_fewest (P := P) (w := w) (base := base) E_fewest B T ⟨H_need_wish, H_table_of, trivial⟩
  have H_laid := d_laid (P := P) (w := w) (base := base) E_laid B T ⟨H_parted, H_put_behind, trivial⟩
  have H_thrifty := d_thrifty (P := P) (w := w) (base := base) E_thrifty B T ⟨H_need_wish, H_table_of, H_laid, trivial⟩
  have H__law_tried := d__law_tried (P := P) (w := w) (base := base) E__law_tried B T ⟨H_fewest, H_thrifty, H__law_word, trivial⟩
  exact d_law F_law B T ⟨H__law_cell_at, H__law_tried, H__law_least, H__law_reach, H__law_whole, H__law_is_net, H__law_by_rule, H__law_rows, trivial⟩
end
end LK
open PyProof.Rows PySem PySem.W PySem.Calls
theorem PySem.Challenge.cw_beginnet_k06_fewest_joints_holds : PySem.Challenge.rw_beginnet_k06_fewest_joints.Holds := by
  w_on; o_law
  refine HandSHeadRun.head_any (r := OpenLaw.row PySem.Challenge.rw_beginnet_k06_fewest_joints) (q := view (OpenLaw.row PySem.Challenge.rw_beginnet_k06_fewest_joints).prog [37]) (H := LK.hk) (ob := LK.ob) (M := 6000) (loose := LK.loose) (d := HandSHeadRun.topDef (OpenLaw.row PySem.Challenge.rw_beginnet_k06_fewest_joints).prog 37) (kwd := []) LK.ob_eq
    (by kernel_rfl) (fun s => by kernel_rfl) LK.run (by kernel_rfl) (by kernel_rfl) (by kernel_rfl) (by rfl) (by first | assumption | decide +kernel) (by decide +kernel) ⟨rfl, rfl, rfl, rfl, rfl, by decide +kernel⟩ ?hw ?hc
  case hw => w_witness2
  case hc =>
    refine G.walk_own (l := PySem.Challenge.rw_beginnet_k06_fewest_joints) (n := 63) (k := 25) (x := "_law_script") rfl (by decide) (by kernel_rfl) ⟨rfl, by decide, by decide⟩ ?F
    intro w mg fa h Y Gn hmg0
    obtain ⟨K, KX, c, cx⟩ := Y
    have hmg : mg ("law" : PySem.Str) = some (.ref fa) := by
      have e : (HandSHeadRun.topDef (OpenLaw.row PySem.Challenge.rw_beginnet_k06_fewest_joints).prog 37).name = ("law" : PySem.Str) := by kernel_rfl
      rw [← e]
      exact hmg0
    obtain ⟨fd, hb, hF⟩ := LK.facts (P := (PySem.Challenge.rw_beginnet_k06_fewest_joints).prog) (w := w) KX Gn hmg c cx
    exact ⟨K, fd, G.ctOf K, LK.f_law, KX, hb, fun ns hl => LK.law_true ns hl, hF⟩
