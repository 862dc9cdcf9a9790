import PyProof.Rows.All
import Wide.All
import OpenK.AllK
import Wide.FinOn
import HandS.ForMost
import HandS.Exc
import HandS.TryOnly
import HandS.ExcOwn
import HandS.WordsExc
import HandS.IsInst
import HandS.Style
import HandS.TupMul
import HandS.TupAny
import HandS.SortRule
import HandS.Rev
import HandS.RevRange
import HandS.Zip
import HandS.Conv
import HandS.SetFor
import HandS.Defaults
import HandS.HeadHook1
import HandS.HeadHook2
import HandS.Head0
import HandS.Head1
import HandS.Head2
import HandS.HeadEnd
import HandS.Ends
import HandS.HotCalls
import HandS.ExcIs
import HandS.ExcField
import HandS.ExcInit
import HandS.EndBits
import HandS.Dict
import HandS.More
import HandS.RevTup
import KE.KStateDown
import Lean
import HandS.Words
import PySem.Challenge.RW_beginnet_k08_whole_layers_and_joints
set_option Elab.async false
set_option linter.all false
set_option maxRecDepth 1000000
set_option maxHeartbeats 0
/-! G0: own data, cells, results; how they stand to the layer's values and heaps; canonical readings. -/
namespace G
open L2 PySem PySem.Spec PyProof.Rows
/-! ### data -/
inductive D where
  | non | bl (b : Bool) | int (i : Int) | str (s : Str) | tup (xs : List D) | lst (xs : List D) | ref (i : Nat) | dic | scr (ns : List Int)
instance : Inhabited D := ⟨.non⟩
abbrev En := List (Option D)
abbrev Cs := List (List D)
inductive Exn where
  | lines | thing | kind | nonet | net (at_ : Option Int)
inductive Rs (α : Type) where
  | ok (a : α) (cs : Cs) | ex (e : Exn) (cs : Cs) | no
abbrev M (α : Type) := Cs → Rs α
namespace M
def ret {α : Type} (a : α) : M α := fun cs => .ok a cs
def bnd {α β : Type} (m : M α) (k : α → M β) : M β := fun cs => match m cs with
  | .ok a cs' => k a cs'
  | .ex e cs' => .ex e cs'
  | .no => .no
def no {α : Type} : M α := fun _ => .no
def thr {α : Type} (e : Exn) : M α := fun cs => .ex e cs
def ofO {α : Type} : Option α → M α
  | some a => ret a
  | none => no
theorem bnd_ok {α β : Type} {m : M α} {k : α → M β} {cs cs' : Cs} {a : α} (h : m cs = .ok a cs') : bnd m k cs = k a cs' := by
  unfold bnd
  rw [h]
theorem bnd_ex {α β : Type} {m : M α} {k : α → M β} {cs cs' : Cs} {e : Exn} (h : m cs = .ex e cs') : bnd m k cs = .ex e cs' := by
  unfold bnd
  rw [h]
@[simp] theorem ret_bnd {α β : Type} (a : α) (k : α → M β) : bnd (ret a) k = k a := rfl
@[simp] theorem no_bnd {α β : Type} (k : α → M β) : bnd (no : M α) k = no := rfl
@[simp] theorem thr_bnd {α β : Type} (e : Exn) (k : α → M β) : bnd (thr e : M α) k = thr e := rfl
@[simp] theorem bnd_ret {α : Type} (m : M α) : bnd m ret = m := by
  funext cs
  unfold bnd ret
  cases m cs <;> rfl
@[simp] theorem bnd_bnd {α β γ : Type} (m : M α) (k : α → M β) (l : β → M γ) : bnd (bnd m k) l = bnd m fun a => bnd (k a) l := by
  funext cs
  unfold bnd
  cases m cs <;> rfl
@[simp] theorem ofO_some {α : Type} (a : α) : ofO (some a) = ret a := rfl
@[simp] theorem ofO_none {α : Type} : ofO (none : Option α) = no := rfl
end M
/-! ### heaps -/
def Ext (H H' : Hp) : Prop := ∀ a o, H a = some o → H' a = some o
theorem Ext.refl (H : Hp) : Ext H H := fun _ _ h => h
theorem Ext.trans {H H1 H2 : Hp} (a : Ext H H1) (b : Ext H1 H2) : Ext H H2 := fun x o h => b x o (a x o h)
theorem Ext.new {H : Hp} {p : Addr} {o : HO} (h : H p = none) : Ext H (upd H p o) := fun a u e => by
  rw [upd_ne (ne_of_none e h)]
  exact e
theorem Ext.upd2 {F H : Hp} {p : Addr} {o : HO} (e : Ext F H) : Ext (upd F p o) (upd H p o) := fun a u h => by
  by_cases q : a = p
  · subst q
    rw [upd_same] at h ⊢
    exact h
  · rw [upd_ne q] at h ⊢
    exact e a u h
theorem Ext.mut {F H : Hp} {p : Addr} {o : HO} (e : Ext F H) (h : F p = none) : Ext F (upd H p o) := fun a u ha => by
  rw [upd_ne (ne_of_none ha h)]
  exact e a u ha
theorem Ext.none {H H' : Hp} {p : Addr} (e : Ext H H') (h : H' p = Option.none) : H p = Option.none := by
  cases h1 : H p with
  | none => rfl
  | some o =>
    rw [e p o h1] at h
    cases h
theorem ext_rd {H H' : Hp} {a : Addr} {u : HO} (e : Ext H H') (h : Rd H a u) : Rd H' a u := by
  rcases h with h | ⟨o, h⟩
  · exact .inl (e a _ h)
  · exact .inr ⟨o, e a _ h⟩
theorem ext_t {K : PySem.W.Frag} {H H' : Hp} {a : Addr} {xs : List V} (e : Ext H H') (h : SqT K H a xs) : SqT K H' a xs := by
  rcases h with h | h
  · exact .inl (ext_rd e h)
  · exact .inr h
theorem ext_l {K : PySem.W.Frag} {H H' : Hp} {a : Addr} {xs : List V} (e : Ext H H') (h : SqL K H a xs) : SqL K H' a xs := by
  rcases h with h | h
  · exact .inl (ext_rd e h)
  · exact .inr h
/-! ### a value stands for a datum: F what is frozen, as the cells' places -/
mutual
inductive Dv (K : PySem.W.Frag) (F : Hp) (as : List Addr) : V → D → Prop
  | non : Dv K F as .non .non
  | bl (b : Bool) : Dv K F as (.bl b) (.bl b)
  | int (i : Int) : Dv K F as (.int i) (.int i)
  | str (x : Str) : Dv K F as (.str x) (.str x)
  | tup {a : Addr} {xs : List V} {ds : List D} : F a = some (.tup xs) → DvL K F as xs ds → Dv K F as (.ref a) (.tup ds)
  | lst {a : Addr} {xs : List V} {ds : List D} : F a = some (.lst xs) → DvL K F as xs ds → Dv K F as (.ref a) (.lst ds)
  | ref {a : Addr} {i : Nat} : as[i]? = some a → Dv K F as (.ref a) (.ref i)
  | dic {a : Addr} : F a = some (.dK []) → Dv K F as (.ref a) .dic
  | scr {a : Addr} {ns : List Int} : SqL K F a (ns.map V.int) → Dv K F as (.ref a) (.scr ns)
inductive DvL (K : PySem.W.Frag) (F : Hp) (as : List Addr) : List V → List D → Prop
  | nil : DvL K F as [] []
  | cons {v : V} {vs : List V} {d : D} {ds : List D} : Dv K F as v d → DvL K F as vs ds → DvL K F as (v :: vs) (d :: ds)
end
section
variable {K : PySem.W.Frag} {F F' H H' : Hp} {as as' : List Addr}
theorem pre_get {α : Type} {as as' : List α} (h : as <+: as') {i : Nat} {a : α} (e : as[i]? = some a) : as'[i]? = some a := by
  obtain ⟨t, rfl⟩ := h
  rw [List.getElem?_append_left (List.getElem?_eq_some_iff.mp e).1]
  exact e
mutual
theorem Dv.mono (e : Ext F F') (p : as <+: as') : ∀ {v : V} {d : D}, Dv K F as v d → Dv K F' as' v d
  | _, _, .non => .non
  | _, _, .bl b => .bl b
  | _, _, .int i => .int i
  | _, _, .str x => .str x
  | _, _, .tup h l => .tup (e _ _ h) (DvL.mono e p l)
  | _, _, .lst h l => .lst (e _ _ h) (DvL.mono e p l)
  | _, _, .ref h => .ref (pre_get p h)
  | _, _, .dic h => .dic (e _ _ h)
  | _, _, .scr h => .scr (ext_l e h)
theorem DvL.mono (e : Ext F F') (p : as <+: as') : ∀ {vs : List V} {ds : List D}, DvL K F as vs ds → DvL K F' as' vs ds
  | _, _, .nil => .nil
  | _, _, .cons h t => .cons (Dv.mono e p h) (DvL.mono e p t)
end
theorem DvL.length : ∀ {vs : List V} {ds : List D}, DvL K F as vs ds → vs.length = ds.length
  | _, _, .nil => rfl
  | _, _, .cons _ t => congrArg (· + 1) t.length
theorem DvL.get : ∀ {vs : List V} {ds : List D} {i : Nat} {d : D}, DvL K F as vs ds → ds[i]? = some d → ∃ v, vs[i]? = some v ∧ Dv K F as v d
  | _, _, _, _, .nil, e => by simp at e
  | _, _, 0, _, .cons h _, e => by
    simp at e
    subst e
    exact ⟨_, rfl, h⟩
  | _, _, i + 1, d, .cons _ t, e => by
    obtain ⟨v, h1, h2⟩ := DvL.get (i := i) (d := d) t (by simpa using e)
    exact ⟨v, by simpa using h1, h2⟩
theorem DvL.getV : ∀ {vs : List V} {ds : List D} {i : Nat} {v : V}, DvL K F as vs ds → vs[i]? = some v → ∃ d, ds[i]? = some d ∧ Dv K F as v d
  | _, _, _, _, .nil, e => by simp at e
  | _, _, 0, _, .cons h _, e => by
    simp at e
    subst e
    exact ⟨_, rfl, h⟩
  | _, _, i + 1, v, .cons _ t, e => by
    obtain ⟨d, h1, h2⟩ := DvL.getV (i := i) (v := v) t (by simpa using e)
    exact ⟨d, by simpa using h1, h2⟩
theorem DvL.append : ∀ {vs ws : List V} {ds es : List D}, DvL K F as vs ds → DvL K F as ws es → DvL K F as (vs ++ ws) (ds ++ es)
  | _, _, _, _, .nil, h => h
  | _, _, _, _, .cons h t, g => .cons h (DvL.append t g)
theorem DvL.set {v : V} {d : D} (h : Dv K F as v d) : ∀ {vs : List V} {ds : List D} (i : Nat), DvL K F as vs ds → DvL K F as (vs.set i v) (ds.set i d)
  | _, _, _, .nil => .nil
  | _, _, 0, .cons _ t => .cons h t
  | _, _, i + 1, .cons q t => .cons q (DvL.set h i t)
theorem DvL.take : ∀ {vs : List V} {ds : List D} (i : Nat), DvL K F as vs ds → DvL K F as (vs.take i) (ds.take i)
  | _, _, 0, h => by
    rw [List.take_zero, List.take_zero]
    exact .nil
  | _, _, i + 1, .nil => .nil
  | _, _, i + 1, .cons h t => .cons h (DvL.take i t)
theorem DvL.drop : ∀ {vs : List V} {ds : List D} (i : Nat), DvL K F as vs ds → DvL K F as (vs.drop i) (ds.drop i)
  | _, _, 0, h => h
  | _, _, i + 1, .nil => .nil
  | _, _, i + 1, .cons h t => DvL.drop i t
theorem DvL.rev : ∀ {vs : List V} {ds : List D}, DvL K F as vs ds → DvL K F as vs.reverse ds.reverse
  | _, _, .nil => .nil
  | _, _, .cons h t => by
    rw [List.reverse_cons, List.reverse_cons]
    exact t.rev.append (.cons h .nil)
theorem DvL.eraseIdx : ∀ {vs : List V} {ds : List D} (i : Nat), DvL K F as vs ds → DvL K F as (vs.eraseIdx i) (ds.eraseIdx i)
  | _, _, _, .nil => .nil
  | _, _, 0, .cons _ t => t
  | _, _, i + 1, .cons h t => .cons h (DvL.eraseIdx i t)
theorem DvL.flat : ∀ {n : Nat} {vs : List V} {ds : List D}, DvL K F as vs ds → DvL K F as (List.replicate n vs).flatten (List.replicate n ds).flatten
  | 0, _, _, _ => .nil
  | n + 1, vs, ds, h => by
    rw [List.replicate_succ, List.replicate_succ, List.flatten_cons, List.flatten_cons]
    exact h.append h.flat
theorem DvL.ints : ∀ ns : List Int, DvL K F as (ns.map V.int) (ns.map D.int)
  | [] => .nil
  | n :: r => .cons (.int n) (DvL.ints r)
theorem DvL.bls : ∀ ns : List Bool, DvL K F as (ns.map V.bl) (ns.map D.bl)
  | [] => .nil
  | n :: r => .cons (.bl n) (DvL.bls r)
end
/-! ### what stands, what came since -/
structure Ok (K : PySem.W.Frag) (F H : Hp) (as : List Addr) (cs : Cs) : Prop where
  fh : Ext F H
  nd : as.Nodup
  len : as.length = cs.length
  cell : ∀ (i : Nat) (a : Addr) (xs : List D), as[i]? = some a → cs[i]? = some xs → F a = none ∧ ∃ ys, H a = some (.lst ys) ∧ DvL K F as ys xs
structure Gro (F H : Hp) (as : List Addr) (F' H' : Hp) (as' : List Addr) : Prop where
  ff : Ext F F'
  fn : ∀ p, H p ≠ none → F' p = F p
  hh : ∀ p o, H p = some o → p ∉ as → H' p = some o
  hl : ∀ p, H p ≠ none → H' p ≠ none
  ap : as <+: as'
  an : ∀ p ∈ as', p ∈ as ∨ H p = none
theorem Gro.refl (F H : Hp) (as : List Addr) : Gro F H as F H as := ⟨Ext.refl F, fun _ _ => rfl, fun _ _ h _ => h, fun _ h => h, List.prefix_rfl, fun _ h => .inl h⟩
theorem Gro.trans {F H F1 H1 F2 H2 : Hp} {as as1 as2 : List Addr} (a : Gro F H as F1 H1 as1) (b : Gro F1 H1 as1 F2 H2 as2) : Gro F H as F2 H2 as2 where
  ff := a.ff.trans b.ff
  fn := fun p h => (b.fn p (a.hl p h)).trans (a.fn p h)
  hh := fun p o h n => b.hh p o (a.hh p o h n) fun q => (a.an p q).elim n fun z => by
    rw [h] at z
    cases z
  hl := fun p h => b.hl p (a.hl p h)
  ap := a.ap.trans b.ap
  an := fun p h => (b.an p h).elim (a.an p) fun z => .inr (by
    cases q : H p with
    | none => rfl
    | some o => exact absurd z (a.hl p (by rw [q]; exact fun y => nomatch y)))
section
variable {K : PySem.W.Frag} {F H F' H' : Hp} {as as' : List Addr} {cs : Cs} {p : Addr}
theorem Ok.old (ok : Ok K F H as cs) {a : Addr} (h : a ∈ as) : F a = none ∧ ∃ ys, H a = some (.lst ys) := by
  obtain ⟨i, hi, e⟩ := List.mem_iff_getElem.mp h
  have hc : i < cs.length := by rw [← ok.len]; exact hi
  obtain ⟨h1, ys, h2, _⟩ := ok.cell i a cs[i] (by rw [List.getElem?_eq_getElem hi, e]) (List.getElem?_eq_getElem hc)
  exact ⟨h1, ys, h2⟩
theorem Ok.out (ok : Ok K F H as cs) (h : H p = none) : p ∉ as := fun m => by
  obtain ⟨_, ys, e⟩ := ok.old m
  rw [h] at e
  cases e
theorem Ok.fnone (ok : Ok K F H as cs) (h : H p = none) : F p = none := ok.fh.none h
/-- a new frozen object -/
theorem gro_new (o : HO) (ok : Ok K F H as cs) (h : H p = none) : Gro F H as (upd F p o) (upd H p o) as where
  ff := Ext.new (ok.fnone h)
  fn := fun q hq => upd_ne fun e => hq (by rw [e]; exact h)
  hh := fun q u hq _ => (Ext.new h) q u hq
  hl := fun q hq => by
    rw [upd_ne fun e => hq (by rw [e]; exact h)]
    exact hq
  ap := List.prefix_rfl
  an := fun _ m => .inl m
theorem ok_new (o : HO) (ok : Ok K F H as cs) (h : H p = none) : Ok K (upd F p o) (upd H p o) as cs where
  fh := ok.fh.upd2
  nd := ok.nd
  len := ok.len
  cell := fun i a xs ha hx => by
    obtain ⟨h1, ys, h2, h3⟩ := ok.cell i a xs ha hx
    have ne : a ≠ p := fun e => by
      rw [e, h] at h2
      cases h2
    exact ⟨by rw [upd_ne ne]; exact h1, ys, by rw [upd_ne ne]; exact h2, h3.mono (Ext.new (ok.fnone h)) List.prefix_rfl⟩
/-- a new object that is not frozen -/
theorem gro_out (o : HO) (ok : Ok K F H as cs) (h : H p = none) : Gro F H as F (upd H p o) as where
  ff := Ext.refl F
  fn := fun _ _ => rfl
  hh := fun q u hq _ => (Ext.new h) q u hq
  hl := fun q hq => by
    rw [upd_ne fun e => hq (by rw [e]; exact h)]
    exact hq
  ap := List.prefix_rfl
  an := fun _ m => .inl m
theorem ok_out (o : HO) (ok : Ok K F H as cs) (h : H p = none) : Ok K F (upd H p o) as cs where
  fh := ok.fh.mut (ok.fnone h)
  nd := ok.nd
  len := ok.len
  cell := fun i a xs ha hx => by
    obtain ⟨h1, ys, h2, h3⟩ := ok.cell i a xs ha hx
    have ne : a ≠ p := fun e => by
      rw [e, h] at h2
      cases h2
    exact ⟨h1, ys, by rw [upd_ne ne]; exact h2, h3⟩
/-- a new cell -/
theorem gro_cell (o : HO) (ok : Ok K F H as cs) (h : H p = none) : Gro F H as F (upd H p o) (as ++ [p]) where
  ff := Ext.refl F
  fn := fun _ _ => rfl
  hh := fun q u hq _ => (Ext.new h) q u hq
  hl := fun q hq => by
    rw [upd_ne fun e => hq (by rw [e]; exact h)]
    exact hq
  ap := List.prefix_append _ _
  an := fun q m => (List.mem_append.mp m).elim .inl fun z => .inr (by
    rw [List.mem_singleton.mp z]
    exact h)
theorem ok_cell {ys : List V} {xs : List D} (ok : Ok K F H as cs) (h : H p = none) (hy : DvL K F as ys xs) : Ok K F (upd H p (.lst ys)) (as ++ [p]) (cs ++ [xs]) where
  fh := ok.fh.mut (ok.fnone h)
  nd := List.nodup_append.mpr ⟨ok.nd, List.nodup_cons.mpr ⟨List.not_mem_nil, List.nodup_nil⟩, fun a ha b hb e => by
    rw [List.mem_singleton.mp hb] at e
    rw [e] at ha
    exact ok.out h ha⟩
  len := by rw [List.length_append, List.length_append, ok.len]; rfl
  cell := fun i a zs ha hz => by
    by_cases hi : i < as.length
    · rw [List.getElem?_append_left hi] at ha
      rw [List.getElem?_append_left (by rw [← ok.len]; exact hi)] at hz
      obtain ⟨h1, ws, h2, h3⟩ := ok.cell i a zs ha hz
      have ne : a ≠ p := fun e => by
        rw [e, h] at h2
        cases h2
      exact ⟨h1, ws, by rw [upd_ne ne]; exact h2, h3.mono (Ext.refl F) (List.prefix_append _ _)⟩
    · rw [List.getElem?_append_right (Nat.le_of_not_lt hi)] at ha
      rw [List.getElem?_append_right (by rw [← ok.len]; exact Nat.le_of_not_lt hi), ← ok.len] at hz
      have e0 : i - as.length = 0 := by
        cases q : i - as.length with
        | zero => rfl
        | succ n =>
          rw [q] at ha
          simp at ha
      rw [e0] at ha hz
      have ea : p = a := by simpa using ha
      have ez : xs = zs := by simpa using hz
      subst ea ez
      exact ⟨ok.fnone h, ys, upd_same, hy.mono (Ext.refl F) (List.prefix_append _ _)⟩
/-- a cell's content changes -/
theorem gro_set {i : Nat} {ys : List V} (o : HO) (ok : Ok K F H as cs) (hp : as[i]? = some p) (h : H p = some (.lst ys)) : Gro F H as F (upd H p o) as where
  ff := Ext.refl F
  fn := fun _ _ => rfl
  hh := fun q u hq n => by
    have ne : q ≠ p := fun e => n (by rw [e]; exact List.mem_of_getElem? hp)
    rw [upd_ne ne]
    exact hq
  hl := fun q hq => by
    by_cases e : q = p
    · rw [e, upd_same]
      exact fun z => nomatch z
    · rw [upd_ne e]
      exact hq
  ap := List.prefix_rfl
  an := fun _ m => .inl m
theorem ok_set {i : Nat} {ys : List V} {xs : List D} (ok : Ok K F H as cs) (hp : as[i]? = some p) (hy : DvL K F as ys xs) : Ok K F (upd H p (.lst ys)) as (cs.set i xs) where
  fh := ok.fh.mut (ok.old (List.mem_of_getElem? hp)).1
  nd := ok.nd
  len := by rw [List.length_set, ok.len]
  cell := fun j a zs ha hz => by
    by_cases e : j = i
    · subst e
      rw [hp] at ha
      have ea : p = a := Option.some.inj ha
      have hl : j < cs.length := by
        rw [← ok.len]
        exact (List.getElem?_eq_some_iff.mp hp).1
      rw [List.getElem?_set_self hl] at hz
      have ez : xs = zs := Option.some.inj hz
      subst ea ez
      exact ⟨(ok.old (List.mem_of_getElem? hp)).1, ys, upd_same, hy⟩
    · rw [List.getElem?_set_ne (Ne.symm e)] at hz
      obtain ⟨h1, ws, h2, h3⟩ := ok.cell j a zs ha hz
      have ne : a ≠ p := fun q => e (by
        obtain ⟨l1, e1⟩ := List.getElem?_eq_some_iff.mp ha
        obtain ⟨l2, e2⟩ := List.getElem?_eq_some_iff.mp hp
        exact (List.getElem_inj ok.nd).mp (e1.trans (q.trans e2.symm)))
      exact ⟨h1, ws, by rw [upd_ne ne]; exact h2, h3⟩
theorem Dv.gro {v : V} {d : D} (h : Dv K F as v d) (g : Gro F H as F' H' as') : Dv K F' as' v d := h.mono g.ff g.ap
theorem DvL.gro {v : List V} {d : List D} (h : DvL K F as v d) (g : Gro F H as F' H' as') : DvL K F' as' v d := h.mono g.ff g.ap
end
/-! ### names' slots -/
structure Sl (K : PySem.W.Frag) (F : Hp) (as : List Addr) (σ : L2.St) (env : En) : Prop where
  len : σ.length = env.length
  at_ : ∀ (i : Nat) (d : D), env[i]? = some (some d) → ∃ v, σ[i]? = some (some v) ∧ Dv K F as v d
section
variable {K : PySem.W.Frag} {F H F' H' : Hp} {as as' : List Addr} {σ : L2.St} {env : En}
theorem Sl.gro (s : Sl K F as σ env) (g : Gro F H as F' H' as') : Sl K F' as' σ env := ⟨s.len, fun i d e => by
  obtain ⟨v, h1, h2⟩ := s.at_ i d e
  exact ⟨v, h1, h2.gro g⟩⟩
theorem Sl.set {v : V} {d : D} (s : Sl K F as σ env) (h : Dv K F as v d) (i : Nat) : Sl K F as (σ.set i (some v)) (env.set i (some d)) := ⟨by rw [List.length_set, List.length_set, s.len], fun j e he => by
  by_cases q : j = i
  · subst q
    by_cases hl : j < env.length
    · rw [List.getElem?_set_self hl] at he
      rw [List.getElem?_set_self (by rw [s.len]; exact hl)]
      have ee : d = e := Option.some.inj (Option.some.inj he)
      subst ee
      exact ⟨v, rfl, h⟩
    · rw [List.getElem?_eq_none (by rw [List.length_set]; exact Nat.le_of_not_lt hl)] at he
      cases he
  · rw [List.getElem?_set_ne (Ne.symm q)] at he ⊢
    exact s.at_ j e he⟩
theorem Sl.unset (s : Sl K F as σ env) (i : Nat) (x : Option V) : Sl K F as (σ.set i x) (env.set i none) := ⟨by rw [List.length_set, List.length_set, s.len], fun j e he => by
  by_cases q : j = i
  · subst q
    by_cases hl : j < env.length
    · rw [List.getElem?_set_self hl] at he
      cases Option.some.inj he
    · rw [List.getElem?_eq_none (by rw [List.length_set]; exact Nat.le_of_not_lt hl)] at he
      cases he
  · rw [List.getElem?_set_ne (Ne.symm q)] at he ⊢
    exact s.at_ j e he⟩
/-- the slots of a comprehension's own names forgotten -/
def wip (env : En) : List Nat → En
  | [] => env
  | v :: vs => (wip env vs).set v none
theorem Sl.wip (s : Sl K F as σ env) : ∀ vs : List Nat, Sl K F as (wipe σ vs) (G.wip env vs)
  | [] => s
  | v :: vs => (Sl.wip s vs).unset v none
theorem Sl.start : ∀ (n : Nat) {vs : List V} {ds : List D}, DvL K F as vs ds → Sl K F as (vs.map some ++ List.replicate n none) (ds.map some ++ List.replicate n none) := fun n {vs ds} h => ⟨by simp [h.length], fun i d e => by
  by_cases hi : i < ds.length
  · rw [List.getElem?_append_left (by simpa using hi), List.getElem?_map] at e
    cases q : ds[i]? with
    | none =>
      rw [q] at e
      cases e
    | some d' =>
      rw [q] at e
      have ed : d' = d := Option.some.inj (Option.some.inj e)
      subst ed
      obtain ⟨v, h1, h2⟩ := h.get q
      refine ⟨v, ?_, h2⟩
      rw [List.getElem?_append_left (by simpa [h.length] using hi), List.getElem?_map, h1]
      rfl
  · rw [List.getElem?_append_right (by simpa using hi)] at e
    obtain ⟨_, q⟩ := List.getElem?_eq_some_iff.mp e
    rw [List.getElem_replicate] at q
    cases q⟩
end
/-! ### results as wishes -/
structure Ct where
  lines : Addr
  thing : Addr
  kind : Addr
  nonet : Addr
  net : Addr
def atV : Option Int → V
  | none => .non
  | some i => .int i
def XRel (ct : Ct) (H : Hp) : Exn → Value → Option Addr → Prop
  | .lines, c, d => c = .ref ct.lines ∧ d = none
  | .thing, c, d => c = .ref ct.thing ∧ d = none
  | .kind, c, d => c = .ref ct.kind ∧ d = none
  | .nonet, c, d => c = .ref ct.nonet ∧ d = none
  | .net o, c, d => c = .ref ct.net ∧ ∃ dd fs, d = some dd ∧ H dd = some (.xd fs) ∧ fs.lookup (PySem.Str.ofString "at") = some (atV o)
def out {α : Type} (K : PySem.W.Frag) (ct : Ct) (W : WX) (n : Nat) (F H : Hp) (as : List Addr) (r : Rs α) (P : α → Cs → Hp → Hp → List Addr → Prop) : Prop := match r with
  | .ok a cs => ∀ F' H' as', Gro F H as F' H' as' → Ok K F' H' as' cs → P a cs F' H' as'
  | .ex x cs => ∀ c d σ' F' H' as', σ'.length = n → Gro F H as F' H' as' → Ok K F' H' as' cs → XRel ct H' x c d → W c d σ' H'
  | .no => False
section
variable {α β : Type} {K : PySem.W.Frag} {ct : Ct} {W : WX} {n : Nat} {F H F1 H1 : Hp} {as as1 : List Addr}
theorem out_mono {r : Rs α} {P : α → Cs → Hp → Hp → List Addr → Prop} (g : Gro F H as F1 H1 as1) (h : out K ct W n F H as r P) : out K ct W n F1 H1 as1 r P := by
  cases r with
  | ok a cs => exact fun F' H' as' g' o => h F' H' as' (g.trans g') o
  | ex x cs => exact fun c d σ' F' H' as' l g' o x' => h c d σ' F' H' as' l (g.trans g') o x'
  | no => exact h
theorem out_imp {r : Rs α} {P P' : α → Cs → Hp → Hp → List Addr → Prop} (h : out K ct W n F H as r P) (k : ∀ a cs F' H' as', Gro F H as F' H' as' → Ok K F' H' as' cs → P a cs F' H' as' → P' a cs F' H' as') : out K ct W n F H as r P' := by
  cases r with
  | ok a cs => exact fun F' H' as' g o => k a cs F' H' as' g o (h F' H' as' g o)
  | ex x cs => exact h
  | no => exact h
theorem out_bnd {m : M α} {k : α → M β} {cs : Cs} {P : β → Cs → Hp → Hp → List Addr → Prop} (h : out K ct W n F H as (M.bnd m k cs) P) : out K ct W n F H as (m cs) fun a cs' F' H' as' => out K ct W n F' H' as' (k a cs') P := by
  unfold M.bnd at h
  cases e : m cs with
  | ok a cs' =>
    rw [e] at h
    exact fun F' H' as' g o => out_mono g h
  | ex x cs' =>
    rw [e] at h
    exact h
  | no =>
    rw [e] at h
    exact h
theorem out_ok {a : α} {cs : Cs} {P : α → Cs → Hp → Hp → List Addr → Prop} (o : Ok K F H as cs) (h : out K ct W n F H as (.ok a cs) P) : P a cs F H as := h F H as (Gro.refl F H as) o
end
/-! ### canonical readings -/
def oD (K : PySem.W.Frag) (Q : VK) : D → Cs → Hp → Hp → List Addr → Prop := fun d _ F' H' as' => ∀ v, Dv K F' as' v d → Q v H'
def tD (K : PySem.W.Frag) (ct : Ct) (W : WX) (m : En → M D) : TE := fun σ H Q => ∃ F as env cs, Ok K F H as cs ∧ Sl K F as σ env ∧ out K ct W σ.length F H as (m env cs) (oD K Q)
def tT (K : PySem.W.Frag) (ct : Ct) (W : WX) (m : En → M Bool) : TT := fun σ H Q => ∃ F as env cs, Ok K F H as cs ∧ Sl K F as σ env ∧ out K ct W σ.length F H as (m env cs) fun b _ _ H' _ => Q b H'
def tA (K : PySem.W.Frag) (ct : Ct) (W : WX) (m : En → M (List D)) : TA := fun σ H Q => ∃ F as env cs, Ok K F H as cs ∧ Sl K F as σ env ∧ out K ct W σ.length F H as (m env cs) fun ds _ F' H' as' => ∀ vs, DvL K F' as' vs ds → Q vs H'
inductive Fl where
  | nx (env : En) | rt (d : D) | bk (env : En) | ct (env : En)
def oS (K : PySem.W.Frag) (n : Nat) (E : Ends) : Fl → Cs → Hp → Hp → List Addr → Prop
  | .nx env', _, F', H', as' => ∀ σ', σ'.length = n → Sl K F' as' σ' env' → E.nx σ' H'
  | .rt d, _, F', H', as' => ∀ v, Dv K F' as' v d → E.rt v H'
  | .bk env', _, F', H', as' => ∀ σ', σ'.length = n → Sl K F' as' σ' env' → E.bk σ' H'
  | .ct env', _, F', H', as' => ∀ σ', σ'.length = n → Sl K F' as' σ' env' → E.ct σ' H'
def tS (K : PySem.W.Frag) (ct : Ct) (W : WX) (m : En → M Fl) : TS := fun E σ H => ∃ F as env cs, Ok K F H as cs ∧ Sl K F as σ env ∧ out K ct W σ.length F H as (m env cs) (oS K σ.length E)
theorem PE.imp {X : Cx} {e : Expr} {t t' : TE} (h : PE X e t) (k : ∀ σ H Q, t' σ H Q → t σ H Q) : PE X e t' := ⟨fun pins s σ H Q I w => h.run pins s σ H Q I (k σ H Q w)⟩
theorem PT.imp {X : Cx} {e : Expr} {t t' : TT} (h : PT X e t) (k : ∀ σ H Q, t' σ H Q → t σ H Q) : PT X e t' := ⟨fun pins s σ H Q I w => h.run pins s σ H Q I (k σ H Q w)⟩
theorem PA.imp {X : Cx} {e : List Expr} {t t' : TA} (h : PA X e t) (k : ∀ σ H Q, t' σ H Q → t σ H Q) : PA X e t' := ⟨fun pos pins s σ H Q I w => h.run pos pins s σ H Q I (k σ H Q w)⟩
theorem PS.imp {X : Cx} {e : Stmt} {t t' : TS} (h : PS X e t) (k : ∀ E σ H, t' E σ H → t E σ H) : PS X e t' := ⟨fun pins s σ H E I w => h.run pins s σ H E I (k E σ H w)⟩
theorem PSs.imp {X : Cx} {e : List Stmt} {t t' : TS} (h : PSs X e t) (k : ∀ E σ H, t' E σ H → t E σ H) : PSs X e t' := ⟨fun pins s σ H E I w => h.run pins s σ H E I (k E σ H w)⟩
end G
/-! G1: expressions. -/
namespace G
open L2 PySem PySem.Spec PyProof.Rows
def szOk (n : Nat) : Bool := decide (n ≤ 1000000)
theorem szOk_le {n : Nat} (h : szOk n = true) : n ≤ sizeLine := Nat.le_trans (of_decide_eq_true h) (by decide)
theorem szOk_lt {n : Nat} (h : szOk n = true) : n < sizeLine := Nat.lt_of_le_of_lt (of_decide_eq_true h) (by decide)
/-! ### what a datum holds -/
def lstOf (cs : Cs) : D → Option (List D)
  | .lst xs => some xs
  | .ref i => cs[i]?
  | _ => none
def seqOf (cs : Cs) : D → Option (List D)
  | .scr ns => some (ns.map .int)
  | d => lstOf cs d
section
variable {K : PySem.W.Frag} {F H : Hp} {as : List Addr} {cs : Cs} {v : V} {d : D} {xs : List D}
theorem lst_at (ok : Ok K F H as cs) (h : Dv K F as v d) (e : lstOf cs d = some xs) : ∃ a ys, v = .ref a ∧ H a = some (.lst ys) ∧ DvL K F as ys xs := by
  cases h with
  | lst h1 h2 =>
    cases e
    exact ⟨_, _, rfl, ok.fh _ _ h1, h2⟩
  | ref h1 =>
    obtain ⟨_, ys, h2, h3⟩ := ok.cell _ _ _ h1 e
    exact ⟨_, ys, rfl, h2, h3⟩
  | _ => cases e
theorem seq_at (ok : Ok K F H as cs) (h : Dv K F as v d) (e : seqOf cs d = some xs) : ∃ a ys, v = .ref a ∧ SqL K H a ys ∧ DvL K F as ys xs := by
  cases d with
  | scr ns =>
    cases h with
    | scr h1 =>
      cases e
      exact ⟨_, _, rfl, ext_l ok.fh h1, DvL.ints ns⟩
  | _ =>
    obtain ⟨a, ys, h1, h2, h3⟩ := lst_at ok h e
    exact ⟨a, ys, h1, SqL.of h2, h3⟩
end
/-! ### new objects -/
/-- a new list: frozen, or a cell -/
def mkL (c : Bool) (zs : List D) : M D := fun cs => if c = true then .ok (.ref cs.length) (cs ++ [zs]) else .ok (.lst zs) cs
@[simp] theorem mkL_f (zs : List D) : mkL false zs = M.ret (.lst zs) := rfl
section
variable {K : PySem.W.Frag} {ct : Ct} {W : WX} {n : Nat} {F H : Hp} {as : List Addr} {cs : Cs} {Q : VK}
theorem new_mk {c : Bool} {zs : List D} {ys : List V} (ok : Ok K F H as cs) (hy : DvL K F as ys zs) (h : out K ct W n F H as (mkL c zs cs) (oD K Q)) (p : Addr) (hp : H p = none) : Q (.ref p) (upd H p (.lst ys)) := by
  cases c with
  | false => exact h _ _ as (gro_new _ ok hp) (ok_new _ ok hp) _ (.lst upd_same (hy.mono (Ext.new (ok.fnone hp)) List.prefix_rfl))
  | true =>
    refine h _ _ (as ++ [p]) (gro_cell _ ok hp) (ok_cell ok hp hy) _ (.ref ?_)
    rw [List.getElem?_append_right (by rw [ok.len]; exact Nat.le_refl _), ok.len, Nat.sub_self]
    rfl
theorem new_tup {zs : List D} {ys : List V} (ok : Ok K F H as cs) (hy : DvL K F as ys zs) (h : out K ct W n F H as (.ok (.tup zs) cs) (oD K Q)) (p : Addr) (hp : H p = none) : Q (.ref p) (upd H p (.tup ys)) :=
  h _ _ as (gro_new _ ok hp) (ok_new _ ok hp) _ (.tup upd_same (hy.mono (Ext.new (ok.fnone hp)) List.prefix_rfl))
theorem end_ok {d : D} {v : V} (ok : Ok K F H as cs) (hv : Dv K F as v d) (h : out K ct W n F H as (.ok d cs) (oD K Q)) : Q v H := out_ok ok h v hv
end
/-! ### names, constants -/
def xVar (i : Nat) : En → M D := fun env => match env[i]? with
  | some (some d) => M.ret d
  | _ => M.no
def xC (d : D) : En → M D := fun _ => M.ret d
/-- what needs no heap -/
def flatD : D → Bool
  | .non | .bl _ | .int _ | .str _ => true
  | _ => false
section
variable {X : Cx} {ct : Ct} {W : WX}
theorem ge_var {i : Nat} {e : Expr} (h : PE X e (tVar i)) : PE X e (tD X.K ct W (xVar i)) := PE.imp h (by
  rintro σ H Q ⟨F, as, env, cs, ok, sl, h⟩
  unfold xVar at h
  cases q : env[i]? with
  | none =>
    rw [q] at h
    exact False.elim h
  | some o =>
    rw [q] at h
    cases o with
    | none => exact False.elim h
    | some d =>
      obtain ⟨v, h1, h2⟩ := sl.at_ i d q
      exact ⟨v, h1, end_ok ok h2 h⟩)
theorem ge_c {d : D} {v : V} {e : Expr} (h : PE X e (tC v)) (hd : ∀ F as, Dv X.K F as v d) : PE X e (tD X.K ct W (xC d)) := PE.imp h (by
  rintro σ H Q ⟨F, as, env, cs, ok, sl, h⟩
  exact end_ok ok (hd F as) h)
theorem ge_int {i j pos} : PE X (.Constant (.int i) j pos) (tD X.K ct W (xC (.int i))) := ge_c pe_int fun _ _ => .int i
theorem ge_bl {b j pos} : PE X (.Constant (.bool b) j pos) (tD X.K ct W (xC (.bl b))) := ge_c pe_bl fun _ _ => .bl b
theorem ge_non {j pos} : PE X (.Constant .none j pos) (tD X.K ct W (xC .non)) := ge_c pe_non fun _ _ => .non
theorem ge_str {x j pos} : PE X (.Constant (.str x) j pos) (tD X.K ct W (xC (.str x))) := ge_c pe_str fun _ _ => .str x
end
/-! ### operators -/
def xBin (f : D → D → M D) (a b : En → M D) : En → M D := fun env => M.bnd (a env) fun x => M.bnd (b env) fun y => f x y
def xUn (f : D → M D) (a : En → M D) : En → M D := fun env => M.bnd (a env) f
def OpD (K : PySem.W.Frag) (ct : Ct) (r : R2) (f : D → D → M D) : Prop :=
  ∀ (W : WX) (n : Nat) (F H : Hp) (as : List Addr) (cs : Cs) (x y : V) (d e : D) (Q : VK), Ok K F H as cs → Dv K F as x d → Dv K F as y e → out K ct W n F H as (f d e cs) (oD K Q) → r x y H Q
theorem OpD.or {K : PySem.W.Frag} {ct : Ct} {r r' : R2} {f f' : D → D → M D} (p : D → D → Bool) (h : OpD K ct r f) (h' : OpD K ct r' f') : OpD K ct (fun x y H Q => r x y H Q ∨ r' x y H Q) (fun d e => if p d e = true then f d e else f' d e) := fun W n F H as cs x y d e Q ok hx hy ho => by
  have ho : out K ct W n F H as ((if p d e = true then f d e else f' d e) cs) (oD K Q) := ho
  by_cases q : p d e = true
  · rw [if_pos q] at ho
    exact .inl (h W n F H as cs x y d e Q ok hx hy ho)
  · rw [if_neg q] at ho
    exact .inr (h' W n F H as cs x y d e Q ok hx hy ho)
section
variable {X : Cx} {ct : Ct} {W : WX} {a b c : Expr} {ma mb mc : En → M D} {f g : D → D → M D} {r r' : R2} {pos : Pos}
theorem tOp_of {K : PySem.W.Frag} (od : OpD K ct r f) {σ : L2.St} {H : Hp} {Q : VK} (h : tD K ct W (xBin f ma mb) σ H Q) : tOp r (tD K ct W ma) (tD K ct W mb) σ H Q := by
  obtain ⟨F, as, env, cs, ok, sl, h⟩ := h
  refine ⟨F, as, env, cs, ok, sl, out_imp (out_bnd h) fun d cs1 F1 H1 as1 g ok1 h1 v hv => ?_⟩
  refine ⟨F1, as1, env, cs1, ok1, sl.gro g, out_imp (out_bnd h1) fun e cs2 F2 H2 as2 g2 ok2 h2 u hu => ?_⟩
  exact od W _ F2 H2 as2 cs2 v u d e Q ok2 (hv.gro g2) hu h2
theorem ge_op {op : Operator} (ho : OpR X (binaryOp op) r) (od : OpD X.K ct r f) (ha : PE X a (tD X.K ct W ma)) (hb : PE X b (tD X.K ct W mb)) : PE X (.BinOp a op b pos) (tD X.K ct W (xBin f ma mb)) := PE.imp (pe_op ho ha hb) fun _ _ _ => tOp_of od
theorem ge_cmp {op : CmpOp} (ho : OpR X (compareOp op) r) (od : OpD X.K ct r f) (ha : PE X a (tD X.K ct W ma)) (hb : PE X b (tD X.K ct W mb)) (hm : behindInMarks op b = false) : PE X (.Compare a [op] [b] pos) (tD X.K ct W (xBin f ma mb)) := PE.imp (pe_cmpR ho ha hb hm) fun _ _ _ => tOp_of od
theorem ge_ix (hr : IxR X r) (od : OpD X.K ct r f) (ha : PE X a (tD X.K ct W ma)) (hb : PE X b (tD X.K ct W mb)) (hs : PlainIx b) : PE X (.Subscript a b pos) (tD X.K ct W (xBin f ma mb)) := PE.imp (pe_ix hr ha hb hs) fun _ _ _ => tOp_of od
def xChain (f g : D → D → M D) (a b c : En → M D) : En → M D := fun env => M.bnd (a env) fun x => M.bnd (b env) fun y => M.bnd (f x y) fun z => match z with
  | .bl true => M.bnd (c env) fun w => g y w
  | .bl false => M.ret (.bl false)
  | _ => M.no
theorem tChain_of {K : PySem.W.Frag} (od : OpD K ct r f) (od' : OpD K ct r' g) {σ : L2.St} {H : Hp} {Q : VK} (h : tD K ct W (xChain f g ma mb mc) σ H Q) : tChain r r' (tD K ct W ma) (tD K ct W mb) (tD K ct W mc) σ H Q := by
  obtain ⟨F, as, env, cs, ok, sl, h⟩ := h
  refine ⟨F, as, env, cs, ok, sl, out_imp (out_bnd h) fun d cs1 F1 H1 as1 g1 ok1 h1 v hv => ?_⟩
  refine ⟨F1, as1, env, cs1, ok1, sl.gro g1, out_imp (out_bnd h1) fun e cs2 F2 H2 as2 g2 ok2 h2 u hu => ?_⟩
  refine od W σ.length F2 H2 as2 cs2 v u d e _ ok2 (hv.gro g2) hu (out_imp (out_bnd h2) fun z cs3 F3 H3 as3 g3 ok3 h3 w hw => ?_)
  split at h3
  · cases hw
    refine ⟨true, rfl, ?_⟩
    rw [if_pos rfl]
    refine ⟨F3, as3, env, cs3, ok3, ((sl.gro g1).gro g2).gro g3, out_imp (out_bnd h3) fun y cs4 F4 H4 as4 g4 ok4 h4 t ht => ?_⟩
    exact od' W _ F4 H4 as4 cs4 u t e y Q ok4 ((hu.gro g3).gro g4) ht h4
  · cases hw
    refine ⟨false, rfl, ?_⟩
    rw [if_neg Bool.false_ne_true]
    exact end_ok ok3 (.bl false) h3
  · exact False.elim h3
theorem ge_chain {op op' : CmpOp} (ho : OpR X (compareOp op) r) (od : OpD X.K ct r f) (ho' : OpR X (compareOp op') r') (od' : OpD X.K ct r' g) (ha : PE X a (tD X.K ct W ma)) (hb : PE X b (tD X.K ct W mb)) (hc : PE X c (tD X.K ct W mc))
    (hm : lastMarks [op, op'] [b, c] = false := by with_unfolding_all rfl) : PE X (.Compare a [op, op'] [b, c] pos) (tD X.K ct W (xChain f g ma mb mc)) := PE.imp (pe_chain ho ho' ha hb hc hm) fun _ _ _ => tChain_of od od'
/-- one-place operators -/
def UnD (K : PySem.W.Frag) (ct : Ct) (r : V → Hp → VK → Prop) (f : D → M D) : Prop :=
  ∀ (W : WX) (n : Nat) (F H : Hp) (as : List Addr) (cs : Cs) (x : V) (d : D) (Q : VK), Ok K F H as cs → Dv K F as x d → out K ct W n F H as (f d cs) (oD K Q) → r x H Q
theorem un_of {K : PySem.W.Frag} {r : V → Hp → VK → Prop} {f : D → M D} (od : UnD K ct r f) {σ : L2.St} {H : Hp} {Q : VK} (h : tD K ct W (xUn f ma) σ H Q) : tD K ct W ma σ H fun x H1 => r x H1 Q := by
  obtain ⟨F, as, env, cs, ok, sl, h⟩ := h
  exact ⟨F, as, env, cs, ok, sl, out_imp (out_bnd h) fun d cs1 F1 H1 as1 g ok1 h1 v hv => od W _ F1 H1 as1 cs1 v d Q ok1 hv h1⟩
theorem ge_un {op : UnaryOp} {r : V → Hp → VK → Prop} {f : D → M D} (ho : UnR X (unaryOp op) r) (od : UnD X.K ct r f) (ha : PE X a (tD X.K ct W ma)) : PE X (.UnaryOp op a pos) (tD X.K ct W (xUn f ma)) := PE.imp (pe_un ho ha) fun _ _ _ => un_of od
end
/-! #### ints -/
def iOp (C : Int → Int → Bool) (g : Int → Int → D) : D → D → M D
  | .int i, .int j => if C i j = true then M.ret (g i j) else M.no
  | _, _ => M.no
section
variable {K : PySem.W.Frag} {ct : Ct}
theorem od_I {C : Int → Int → Prop} {Cb : Int → Int → Bool} {g : Int → Int → V} {gd : Int → Int → D} (hc : ∀ i j, Cb i j = true → C i j) (hg : ∀ F as i j, Dv K F as (g i j) (gd i j)) : OpD K ct (rI C g) (iOp Cb gd) := fun W n F H as cs x y d e Q ok hx hy h => by
  unfold iOp at h
  split at h
  · split at h
    · rename_i i j q
      cases hx
      cases hy
      exact ⟨i, j, rfl, rfl, hc i j q, end_ok ok (hg F as i j) h⟩
    · exact False.elim h
  · exact False.elim h
theorem od_I0 {g : Int → Int → V} {gd : Int → Int → D} (hg : ∀ F as i j, Dv K F as (g i j) (gd i j)) : OpD K ct (rI0 g) (iOp (fun _ _ => true) gd) := fun W n F H as cs x y d e Q ok hx hy h => by
  unfold iOp at h
  split at h
  · rename_i i j
    rw [if_pos rfl] at h
    cases hx
    cases hy
    exact ⟨i, j, rfl, rfl, end_ok ok (hg F as i j) h⟩
  · exact False.elim h
def opSub := iOp (fun _ _ => true) fun i j => .int (i - j)
def opLt := iOp (fun _ _ => true) fun i j => .bl (decide (i < j))
def opLe := iOp (fun _ _ => true) fun i j => .bl (decide (i ≤ j))
def opGt := iOp (fun _ _ => true) fun i j => .bl (decide (j < i))
def opGe := iOp (fun _ _ => true) fun i j => .bl (decide (j ≤ i))
def opDiv := iOp (fun _ j => decide (0 < j ∧ j < 1073741824)) fun i j => .int (i / j)
def opMod := iOp (fun _ j => decide (0 < j)) fun i j => .int (i % j)
def opPow := iOp (fun i j => decide (0 ≤ j ∧ j ≤ 1000000 ∧ i.natAbs < 2 ^ 64)) fun i j => .int (i ^ j.toNat)
theorem od_sub : OpD K ct (rI0 fun i j => .int (i - j)) opSub := od_I0 fun _ _ _ _ => .int _
theorem od_lt : OpD K ct (rI0 fun i j => .bl (decide (i < j))) opLt := od_I0 fun _ _ _ _ => .bl _
theorem od_le : OpD K ct (rI0 fun i j => .bl (decide (i ≤ j))) opLe := od_I0 fun _ _ _ _ => .bl _
theorem od_gt : OpD K ct (rI0 fun i j => .bl (decide (j < i))) opGt := od_I0 fun _ _ _ _ => .bl _
theorem od_ge : OpD K ct (rI0 fun i j => .bl (decide (j ≤ i))) opGe := od_I0 fun _ _ _ _ => .bl _
theorem od_div : OpD K ct (rI CDiv fun i j => .int (i / j)) opDiv := od_I (fun i j h => show _ ∧ _ from of_decide_eq_true h) fun _ _ _ _ => .int _
theorem od_mod : OpD K ct (rI (fun _ j => 0 < j) fun i j => .int (i % j)) opMod := od_I (fun _ _ h => of_decide_eq_true h) fun _ _ _ _ => .int _
theorem od_pow : OpD K ct (rI CPow fun i j => .int (i ^ j.toNat)) opPow := od_I (fun i j h => show _ ∧ _ from of_decide_eq_true h) fun _ _ _ _ => .int _
end
/-! #### + and * -/
def opAdd (c : Bool) : D → D → M D
  | .int i, .int j => M.ret (.int (i + j))
  | .str x, .str y => if szOk (x.length + y.length) = true then M.ret (.str (x ++ y)) else M.no
  | .tup xs, .tup ys => if szOk (xs.length + ys.length) = true then M.ret (.tup (xs ++ ys)) else M.no
  | a, b => fun cs => match lstOf cs a, lstOf cs b with
    | some xs, some ys => if szOk (xs.length + ys.length) = true then mkL c (xs ++ ys) cs else .no
    | _, _ => .no
def rAddA (K : PySem.W.Frag) : R2 := fun x y H Q => (rI0 (fun i j => .int (i + j)) x y H Q) ∨ (fun x y H Q => (∃ i j, x = .str i ∧ y = .str j ∧ i.length + j.length ≤ sizeLine ∧ Q (.str (i ++ j)) H) ∨ (rCatA K x y H Q ∨ rCat x y H Q)) x y H Q
theorem op_addA {X : Cx} : OpR X (binaryOp .Add) (rAddA X.K) := OpR.or op_add (OpR.or op_add_str (OpR.or op_catA op_cat))
theorem DvL.nil_iff {K : PySem.W.Frag} {F : Hp} {as : List Addr} {vs : List V} {ds : List D} (h : DvL K F as vs ds) : vs = [] ↔ ds = [] := by
  cases h with
  | nil => simp
  | cons _ _ => simp
theorem od_add {K : PySem.W.Frag} {ct : Ct} (c : Bool) : OpD K ct (rAddA K) (opAdd c) := fun W n F H as cs x y d e Q ok hx hy h => by
  unfold opAdd at h
  split at h
  · cases hx
    cases hy
    exact .inl ⟨_, _, rfl, rfl, end_ok ok (.int _) h⟩
  · split at h
    · rename_i q
      cases hx
      cases hy
      exact .inr (.inl ⟨_, _, rfl, rfl, szOk_le q, end_ok ok (.str _) h⟩)
    · exact False.elim h
  · split at h
    · rename_i xs ys q
      cases hx with
      | tup t1 l1 =>
        cases hy with
        | tup t2 l2 =>
          refine .inr (.inr (.inl ⟨_, _, _, _, rfl, rfl, SqT.of (ok.fh _ _ t1), SqT.of (ok.fh _ _ t2), by rw [l1.length, l2.length]; exact szOk_le q, fun z => ?_, fun z z2 => ?_, fun z z2 p hp => ?_⟩))
          · rw [l1.nil_iff.mp z] at h
            exact end_ok ok (.tup t2 l2) h
          · rw [l2.nil_iff.mp z2, List.append_nil] at h
            exact end_ok ok (.tup t1 l1) h
          · exact new_tup ok (l1.append l2) h p hp
    · exact False.elim h
  · dsimp only at h
    split at h
    · split at h
      · rename_i e1 e2 q
        obtain ⟨a, ys, rfl, h1, l1⟩ := lst_at ok hx e1
        obtain ⟨b, zs, rfl, h2, l2⟩ := lst_at ok hy e2
        exact .inr (.inr (.inr ⟨a, b, ys, zs, rfl, rfl, h1, h2, by rw [l1.length, l2.length]; exact szOk_le q, new_mk ok (l1.append l2) h⟩))
      · exact False.elim h
    · exact False.elim h
/-- ints; a list n times -/
def opMul (c : Bool) : D → D → M D
  | .int i, .int j => if decide ((-(2 ^ 64) < i ∧ i < 2 ^ 64) ∨ (-(2 ^ 64) < j ∧ j < 2 ^ 64)) = true then M.ret (.int (i * j)) else M.no
  | a, .int k => fun cs => match lstOf cs a with
    | some xs => if (decide (-(2 ^ 63) ≤ k ∧ k < 2 ^ 63) && szOk (xs.length * k.toNat)) = true then mkL c (List.replicate k.toNat xs).flatten cs else .no
    | none => .no
  | _, _ => M.no
def rMulA : R2 := fun x y H Q => (rI CMul (fun i j => .int (i * j)) x y H Q) ∨ rRep x y H Q
theorem op_mulA {X : Cx} : OpR X (binaryOp .Mult) rMulA := OpR.or op_mul op_rep
theorem od_mul {K : PySem.W.Frag} {ct : Ct} (c : Bool) : OpD K ct rMulA (opMul c) := fun W n F H as cs x y d e Q ok hx hy h => by
  unfold opMul at h
  split at h
  · split at h
    · rename_i q
      cases hx
      cases hy
      exact .inl ⟨_, _, rfl, rfl, (show _ ∨ _ from of_decide_eq_true q), end_ok ok (.int _) h⟩
    · exact False.elim h
  · dsimp only at h
    split at h
    · split at h
      · rename_i e1 q
        obtain ⟨a, ys, rfl, h1, l1⟩ := lst_at ok hx e1
        cases hy
        obtain ⟨q1, q2⟩ := Bool.and_eq_true_iff.mp q
        obtain ⟨q3, q4⟩ := of_decide_eq_true q1
        exact .inr ⟨a, _, ys, rfl, rfl, h1, q3, q4, by rw [l1.length]; exact szOk_le q2, new_mk ok l1.flat h⟩
      · exact False.elim h
    · exact False.elim h
  · exact False.elim h
/-! #### - -/
def opNeg : D → M D
  | .int i => M.ret (.int (-i))
  | _ => M.no
theorem ud_neg {K : PySem.W.Frag} {ct : Ct} : UnD K ct (rU fun i => .int (-i)) opNeg := fun W n F H as cs x d Q ok hx h => by
  unfold opNeg at h
  split at h
  · cases hx
    exact ⟨_, rfl, end_ok ok (.int _) h⟩
  · exact False.elim h
/-! #### is None -/
def opIsN (b : Bool) : D → D → M D
  | .non, .non => M.ret (.bl b)
  | _, .non => M.ret (.bl (!b))
  | _, _ => M.no
theorem isN_v {K : PySem.W.Frag} {F : Hp} {as : List Addr} {x : V} {d : D} (h : Dv K F as x d) (q : d = .non → False) : decide (x = .non) = false := decide_eq_false fun e => by
  subst e
  cases h
  exact q rfl
theorem od_isN {K : PySem.W.Frag} {ct : Ct} : OpD K ct (fun x y H Q => y = .non ∧ Q (.bl (decide (x = .non))) H) (opIsN true) := fun W n F H as cs x y d e Q ok hx hy h => by
  unfold opIsN at h
  split at h
  · cases hx
    cases hy
    exact ⟨rfl, end_ok ok (.bl _) h⟩
  · rename_i q
    cases hy
    refine ⟨rfl, ?_⟩
    rw [isN_v hx fun z => q z]
    exact end_ok ok (.bl _) h
  · exact False.elim h
theorem od_notN {K : PySem.W.Frag} {ct : Ct} : OpD K ct (fun x y H Q => y = .non ∧ Q (.bl (!decide (x = .non))) H) (opIsN false) := fun W n F H as cs x y d e Q ok hx hy h => by
  unfold opIsN at h
  split at h
  · cases hx
    cases hy
    exact ⟨rfl, end_ok ok (.bl _) h⟩
  · rename_i q
    cases hy
    refine ⟨rfl, ?_⟩
    rw [isN_v hx fun z => q z]
    exact end_ok ok (.bl _) h
  · exact False.elim h
/-! #### == of data -/
mutual
def pyG (r : Nat → Option PyData) : D → Option PyData
  | .non => some .none
  | .bl b => some (.bool b)
  | .int i => some (.int i)
  | .str x => some (.str x)
  | .tup xs => (pyGL r xs).map .tuple
  | .lst xs => (pyGL r xs).map .list
  | .ref i => r i
  | .dic => none
  | .scr _ => none
def pyGL (r : Nat → Option PyData) : List D → Option (List PyData)
  | [] => some []
  | d :: ds => match pyG r d, pyGL r ds with
    | some p, some ps => some (p :: ps)
    | _, _ => none
end
def pyN (cs : Cs) : Nat → Nat → Option PyData
  | 0, _ => none
  | n + 1, i => match cs[i]? with
    | some xs => (pyGL (pyN cs n) xs).map .list
    | none => none
def py (cs : Cs) (d : D) : Option PyData := pyG (pyN cs 3) d
section
variable {K : PySem.W.Frag} {F H : Hp} {as : List Addr} {cs : Cs}
mutual
theorem pyG_dp (ok : Ok K F H as cs) {r : Nat → Option PyData} (hr : ∀ i p a, r i = some p → as[i]? = some a → Dp K H (.ref a) p) : ∀ {v : V} {d : D} {p : PyData}, Dv K F as v d → pyG r d = some p → Dp K H v p
  | _, _, _, .non, e => by
    cases e
    exact .non
  | _, _, _, .bl b, e => by
    cases e
    exact .bl b
  | _, _, _, .int i, e => by
    cases e
    exact .int i
  | _, _, _, .str x, e => by
    cases e
    exact .str x
  | _, _, p, .tup (ds := ds) h l, e => by
    have e2 : (pyGL r ds).map PyData.tuple = some p := e
    cases q : pyGL r ds with
    | none =>
      rw [q] at e2
      cases e2
    | some ps =>
      rw [q] at e2
      cases e2
      exact .tup (SqT.of (ok.fh _ _ h)) (pyGL_dp ok hr l q)
  | _, _, p, .lst (ds := ds) h l, e => by
    have e2 : (pyGL r ds).map PyData.list = some p := e
    cases q : pyGL r ds with
    | none =>
      rw [q] at e2
      cases e2
    | some ps =>
      rw [q] at e2
      cases e2
      exact .lst (SqL.of (ok.fh _ _ h)) (pyGL_dp ok hr l q)
  | _, _, _, .ref h, e => hr _ _ _ e h
  | _, _, _, .dic _, e => by cases e
  | _, _, _, .scr _, e => by cases e
theorem pyGL_dp (ok : Ok K F H as cs) {r : Nat → Option PyData} (hr : ∀ i p a, r i = some p → as[i]? = some a → Dp K H (.ref a) p) : ∀ {vs : List V} {ds : List D} {ps : List PyData}, DvL K F as vs ds → pyGL r ds = some ps → DpAll K H vs ps
  | _, _, _, .nil, e => by
    cases e
    exact .nil
  | _, _, ps, .cons (d := d) (ds := ds) h t, e => by
    have e2 : (match pyG r d, pyGL r ds with
      | some p, some ps => some (p :: ps)
      | _, _ => none) = some ps := e
    split at e2
    · rename_i p qs e3 e4
      cases e2
      exact .cons (pyG_dp ok hr h e3) (pyGL_dp ok hr t e4)
    · cases e2
end
theorem pyN_dp (ok : Ok K F H as cs) : ∀ (n i : Nat) (p : PyData) (a : Addr), pyN cs n i = some p → as[i]? = some a → Dp K H (.ref a) p
  | 0, _, _, _, e, _ => by cases e
  | n + 1, i, p, a, e, ha => by
    have e2 : (match cs[i]? with
      | some xs => (pyGL (pyN cs n) xs).map PyData.list
      | none => none) = some p := e
    cases hc : cs[i]? with
    | none =>
      rw [hc] at e2
      cases e2
    | some xs =>
      rw [hc] at e2
      have e3 : (pyGL (pyN cs n) xs).map PyData.list = some p := e2
      obtain ⟨_, ys, h1, h2⟩ := ok.cell i a xs ha hc
      cases q : pyGL (pyN cs n) xs with
      | none =>
        rw [q] at e3
        cases e3
      | some ps =>
        rw [q] at e3
        cases e3
        exact .lst (SqL.of h1) (pyGL_dp ok (pyN_dp ok n) h2 q)
theorem py_dp (ok : Ok K F H as cs) {v : V} {d : D} {p : PyData} (h : Dv K F as v d) (e : py cs d = some p) : Dp K H v p := pyG_dp ok (pyN_dp ok 3) h e
end
def opEq (b : Bool) : D → D → M D := fun d e cs => match py cs d, py cs e with
  | some p, some q => if (SeqAt.shaped p && SeqAt.shaped q) = true then .ok (.bl (if b = true then PyData.eqv p q else !PyData.eqv p q)) cs else .no
  | _, _ => .no
theorem od_eq {K : PySem.W.Frag} {ct : Ct} : OpD K ct (rEqD K) (opEq true) := fun W n F H as cs x y d e Q ok hx hy h => by
  unfold opEq at h
  split at h
  · split at h
    · rename_i p q e1 e2 hs
      obtain ⟨s1, s2⟩ := Bool.and_eq_true_iff.mp hs
      exact ⟨p, q, py_dp ok hx e1, py_dp ok hy e2, s1, s2, end_ok ok (.bl _) h⟩
    · exact False.elim h
  · exact False.elim h
theorem od_ne {K : PySem.W.Frag} {ct : Ct} : OpD K ct (rNeD K) (opEq false) := fun W n F H as cs x y d e Q ok hx hy h => by
  unfold opEq at h
  split at h
  · split at h
    · rename_i p q e1 e2 hs
      obtain ⟨s1, s2⟩ := Bool.and_eq_true_iff.mp hs
      exact ⟨p, q, py_dp ok hx e1, py_dp ok hy e2, s1, s2, end_ok ok (.bl _) h⟩
    · exact False.elim h
  · exact False.elim h
/-! #### a[i] -/
def opIx : D → D → M D
  | .tup xs, .int i => M.ofO (atI xs i)
  | .str z, .int i => if szOk z.length = true then (match atI z.cps.toList i with
    | some c => M.ret (.str ⟨#[c]⟩)
    | none => M.no) else M.no
  | a, .int i => fun cs => match seqOf cs a with
    | some xs => M.ofO (atI xs i) cs
    | none => .no
  | _, _ => M.no
theorem atI_dv {K : PySem.W.Frag} {F : Hp} {as : List Addr} {vs : List V} {ds : List D} {i : Int} {d : D} (h : DvL K F as vs ds) (e : atI ds i = some d) : ∃ v, atI vs i = some v ∧ Dv K F as v d := by
  unfold atI at e ⊢
  rw [h.length]
  cases q : ixN ds.length i with
  | none =>
    rw [q] at e
    cases e
  | some j =>
    rw [q] at e
    exact h.get e
theorem od_ix {K : PySem.W.Frag} {ct : Ct} : OpD K ct (rIx K) opIx := fun W n F H as cs x y d e Q ok hx hy h => by
  unfold opIx at h
  split at h
  · rename_i xs i
    cases hy
    cases hx with
    | tup t l =>
      cases q : atI xs i with
      | none =>
        rw [q] at h
        exact False.elim h
      | some z =>
        rw [q] at h
        obtain ⟨v, h1, h2⟩ := atI_dv l q
        exact .inr (.inl ⟨_, _, i, v, rfl, rfl, SqT.of (ok.fh _ _ t), h1, end_ok ok h2 h⟩)
  · split at h
    · rename_i z i q
      cases hx
      cases hy
      cases e1 : atI z.cps.toList i with
      | none =>
        rw [e1] at h
        exact False.elim h
      | some c =>
        rw [e1] at h
        exact .inr (.inr ⟨z, i, c, rfl, rfl, szOk_le q, e1, end_ok ok (.str _) h⟩)
    · exact False.elim h
  · rename_i i _ _
    dsimp only at h
    split at h
    · rename_i xs e1
      cases hy
      obtain ⟨a, ys, rfl, h1, l⟩ := seq_at ok hx e1
      cases q : atI xs i with
      | none =>
        rw [q] at h
        exact False.elim h
      | some z =>
        rw [q] at h
        obtain ⟨v, h2, h3⟩ := atI_dv l q
        exact .inl ⟨a, ys, i, v, rfl, rfl, h1, h2, end_ok ok h3 h⟩
    · exact False.elim h
  · exact False.elim h
/-! #### in, not in: a letter in a text; a text in a tuple of texts; an int in a list of ints -/
def opNotInS : D → D → M D
  | .str c, .str z => match c.cps.toList with
    | [k] => M.ret (.bl (!decide (k ∈ z.cps.toList)))
    | _ => M.no
  | _, _ => M.no
theorem od_notInS {K : PySem.W.Frag} {ct : Ct} : OpD K ct (fun x y H Q => ∃ (c : Nat) (z : Str), x = .str ⟨#[c]⟩ ∧ y = .str z ∧ Q (.bl (!decide (c ∈ z.cps.toList))) H) opNotInS := fun W n F H as cs x y d e Q ok hx hy h => by
  unfold opNotInS at h
  split at h
  · rename_i c z
    obtain ⟨⟨l⟩⟩ := c
    match l, h with
    | [], h => exact False.elim h
    | _ :: _ :: _, h => exact False.elim h
    | [k], h =>
      cases hx
      cases hy
      exact ⟨k, z, rfl, rfl, end_ok ok (.bl _) h⟩
  · exact False.elim h
def flatV? : D → Option V
  | .non => some .non
  | .bl b => some (.bl b)
  | .int i => some (.int i)
  | .str x => some (.str x)
  | _ => none
def flatVs? : List D → Option (List V)
  | [] => some []
  | d :: ds => match flatV? d, flatVs? ds with
    | some v, some vs => some (v :: vs)
    | _, _ => none
theorem flatV_eq {K : PySem.W.Frag} {F : Hp} {as : List Addr} {x w : V} {d : D} (h : Dv K F as x d) (e : flatV? d = some w) : x = w ∧ flatV w = true := by
  cases h <;> first | (cases e; exact ⟨rfl, rfl⟩) | cases e
theorem flatVs_eq {K : PySem.W.Frag} {F : Hp} {as : List Addr} : ∀ {xs ws : List V} {ds : List D}, DvL K F as xs ds → flatVs? ds = some ws → xs = ws ∧ ws.all flatV = true
  | _, _, _, .nil, e => by
    cases e
    exact ⟨rfl, rfl⟩
  | _, ws, _, .cons (d := d) (ds := ds) h t, e => by
    have e2 : (match flatV? d, flatVs? ds with
      | some v, some vs => some (v :: vs)
      | _, _ => none) = some ws := e
    split at e2
    · rename_i v vs e3 e4
      cases e2
      obtain ⟨a1, a2⟩ := flatV_eq h e3
      obtain ⟨b1, b2⟩ := flatVs_eq t e4
      subst a1 b1
      refine ⟨rfl, ?_⟩
      rw [List.all_cons, a2, b2]
      rfl
    · cases e2
def itsOf (cs : Cs) : D → Option (List D)
  | .tup xs => some xs
  | d => seqOf cs d
theorem its_at {K : PySem.W.Frag} {F H : Hp} {as : List Addr} {cs : Cs} {v : V} {d : D} {xs : List D} (ok : Ok K F H as cs) (h : Dv K F as v d) (e : itsOf cs d = some xs) : ∃ a ys, v = .ref a ∧ (SqL K H a ys ∨ SqT K H a ys) ∧ DvL K F as ys xs := by
  cases d with
  | tup zs =>
    cases e
    cases h with
    | tup t l => exact ⟨_, _, rfl, .inr (SqT.of (ok.fh _ _ t)), l⟩
  | _ =>
    obtain ⟨a, ys, h1, h2, h3⟩ := seq_at ok h e
    exact ⟨a, ys, h1, .inl h2, h3⟩
def opIn (neg : Bool) : D → D → M D := fun d e cs => match flatV? d, itsOf cs e with
  | some v, some xs => (match flatVs? xs with
    | some ws => .ok (.bl (if neg = true then !inV v ws else inV v ws)) cs
    | none => .no)
  | _, _ => .no
theorem od_in {K : PySem.W.Frag} {ct : Ct} (neg : Bool) : OpD K ct (rIn K neg) (opIn neg) := fun W n F H as cs x y d e Q ok hx hy h => by
  unfold opIn at h
  split at h
  · split at h
    · rename_i v xs e1 e2 _ ws e3
      obtain ⟨rfl, f1⟩ := flatV_eq hx e1
      obtain ⟨a, ys, rfl, h1, l⟩ := its_at ok hy e2
      obtain ⟨rfl, f2⟩ := flatVs_eq l e3
      exact ⟨a, _, rfl, h1, f1, f2, end_ok ok (.bl _) h⟩
    · exact False.elim h
  · exact False.elim h
/-! ### tests -/
def bVal (a : En → M D) : En → M Bool := fun env => M.bnd (a env) fun d => match d with
  | .bl b => M.ret b
  | _ => M.no
def bAnd (a b : En → M Bool) : En → M Bool := fun env => M.bnd (a env) fun k => if k = true then b env else M.ret false
def bOr (a b : En → M Bool) : En → M Bool := fun env => M.bnd (a env) fun k => if k = true then M.ret true else b env
def bNot (a : En → M Bool) : En → M Bool := fun env => M.bnd (a env) fun k => M.ret (!k)
section
variable {X : Cx} {ct : Ct} {W : WX} {a b : Expr} {rest : List Expr} {ma mb : En → M D} {ba bb : En → M Bool} {pos : Pos}
theorem bv_of {K : PySem.W.Frag} {σ : L2.St} {H : Hp} {Q : Bool → Hp → Prop} (h : tT K ct W (bVal ma) σ H Q) : tD K ct W ma σ H fun x H1 => ∃ k, x = .bl k ∧ Q k H1 := by
  obtain ⟨F, as, env, cs, ok, sl, h⟩ := h
  refine ⟨F, as, env, cs, ok, sl, out_imp (out_bnd h) fun d cs1 F1 H1 as1 g ok1 h1 v hv => ?_⟩
  split at h1
  · cases hv
    exact ⟨_, rfl, out_ok ok1 h1⟩
  · exact False.elim h1
theorem gt_val (h : PE X a (tD X.K ct W ma)) (he : ∀ whole, isTrue a X.env whole = (do let v ← whole; standAt a.pos; holding [v] (truthy v)) := by intro _; rfl) : PT X a (tT X.K ct W (bVal ma)) := PT.imp (pt_val h he) fun _ _ _ h => bv_of h
theorem gt_cmp {op : CmpOp} {r : R2} {f : D → D → M D} (ho : OpR X (compareOp op) r) (od : OpD X.K ct r f) (ha : PE X a (tD X.K ct W ma)) (hb : PE X b (tD X.K ct W mb)) (hm : behindInMarks op b = false) : PT X (.Compare a [op] [b] pos) (tT X.K ct W (bVal (xBin f ma mb))) :=
  PT.imp (pt_cmpR ho ha hb hm) fun _ _ _ h => tOp_of od (bv_of h)
theorem gt_chain {op op' : CmpOp} {r r' : R2} {f g : D → D → M D} {c : Expr} {mc : En → M D} (ho : OpR X (compareOp op) r) (od : OpD X.K ct r f) (ho' : OpR X (compareOp op') r') (od' : OpD X.K ct r' g) (ha : PE X a (tD X.K ct W ma)) (hb : PE X b (tD X.K ct W mb)) (hc : PE X c (tD X.K ct W mc))
    (hm : lastMarks [op, op'] [b, c] = false := by with_unfolding_all rfl) : PT X (.Compare a [op, op'] [b, c] pos) (tT X.K ct W (bVal (xChain f g ma mb mc))) := PT.imp (pt_chain ho ho' ha hb hc hm) fun _ _ _ h => tChain_of od od' (bv_of h)
theorem gw_and1 (h : PT X a (tT X.K ct W ba)) : PW X (.BoolOp .And [a] pos) (tT X.K ct W ba) := pw_and1 h
theorem gw_or1 (h : PT X a (tT X.K ct W ba)) : PW X (.BoolOp .Or [a] pos) (tT X.K ct W ba) := pw_or1 h
theorem PW.imp {e : Expr} {t t' : TT} (h : PW X e t) (k : ∀ σ H Q, t' σ H Q → t σ H Q) : PW X e t' := ⟨fun wh pins s σ H Q I w => h.run wh pins s σ H Q I (k σ H Q w)⟩
theorem and_of {K : PySem.W.Frag} {σ : L2.St} {H : Hp} {Q : Bool → Hp → Prop} (h : tT K ct W (bAnd ba bb) σ H Q) : tAnd (tT K ct W ba) (tT K ct W bb) σ H Q := by
  obtain ⟨F, as, env, cs, ok, sl, h⟩ := h
  refine ⟨F, as, env, cs, ok, sl, out_imp (out_bnd h) fun k cs1 F1 H1 as1 g ok1 h1 => ?_⟩
  cases k with
  | true => exact ⟨F1, as1, env, cs1, ok1, sl.gro g, h1⟩
  | false => exact out_ok ok1 h1
theorem or_of {K : PySem.W.Frag} {σ : L2.St} {H : Hp} {Q : Bool → Hp → Prop} (h : tT K ct W (bOr ba bb) σ H Q) : tOr (tT K ct W ba) (tT K ct W bb) σ H Q := by
  obtain ⟨F, as, env, cs, ok, sl, h⟩ := h
  refine ⟨F, as, env, cs, ok, sl, out_imp (out_bnd h) fun k cs1 F1 H1 as1 g ok1 h1 => ?_⟩
  cases k with
  | true => exact out_ok ok1 h1
  | false => exact ⟨F1, as1, env, cs1, ok1, sl.gro g, h1⟩
theorem gw_and (ha : PT X a (tT X.K ct W ba)) (hb : PW X (.BoolOp .And (b :: rest) pos) (tT X.K ct W bb)) : PW X (.BoolOp .And (a :: b :: rest) pos) (tT X.K ct W (bAnd ba bb)) := PW.imp (pw_and ha hb) fun _ _ _ => and_of
theorem gw_or (ha : PT X a (tT X.K ct W ba)) (hb : PW X (.BoolOp .Or (b :: rest) pos) (tT X.K ct W bb)) : PW X (.BoolOp .Or (a :: b :: rest) pos) (tT X.K ct W (bOr ba bb)) := PW.imp (pw_or ha hb) fun _ _ _ => or_of
theorem gt_not (ha : PT X a (tT X.K ct W ba)) : PT X (.UnaryOp .Not a pos) (tT X.K ct W (bNot ba)) := PT.imp (pt_not ha) (by
  rintro σ H Q ⟨F, as, env, cs, ok, sl, h⟩
  exact ⟨F, as, env, cs, ok, sl, out_imp (out_bnd h) fun k cs1 F1 H1 as1 g ok1 h1 => out_ok ok1 h1⟩)
/-! as values -/
def xAnd (a b : En → M D) : En → M D := fun env => M.bnd (a env) fun d => match d with
  | .bl true => b env
  | .bl false => M.ret (.bl false)
  | _ => M.no
def xOr (a b : En → M D) : En → M D := fun env => M.bnd (a env) fun d => match d with
  | .bl true => M.ret (.bl true)
  | .bl false => b env
  | _ => M.no
def xNot (a : En → M D) : En → M D := fun env => M.bnd (a env) fun d => match d with
  | .bl k => M.ret (.bl (!k))
  | _ => M.no
theorem ge_one {op} (h : PE X a (tD X.K ct W ma)) : PE X (.BoolOp op [a] pos) (tD X.K ct W ma) := pe_one h
theorem ge_and (ha : PE X a (tD X.K ct W ma)) (hb : PE X (.BoolOp .And (b :: rest) pos) (tD X.K ct W mb)) : PE X (.BoolOp .And (a :: b :: rest) pos) (tD X.K ct W (xAnd ma mb)) := PE.imp (pe_and ha hb) (by
  rintro σ H Q ⟨F, as, env, cs, ok, sl, h⟩
  refine ⟨F, as, env, cs, ok, sl, out_imp (out_bnd h) fun d cs1 F1 H1 as1 g ok1 h1 v hv => ?_⟩
  split at h1
  · cases hv
    exact ⟨true, rfl, F1, as1, env, cs1, ok1, sl.gro g, h1⟩
  · cases hv
    exact ⟨false, rfl, end_ok ok1 (.bl false) h1⟩
  · exact False.elim h1)
theorem ge_or (ha : PE X a (tD X.K ct W ma)) (hb : PE X (.BoolOp .Or (b :: rest) pos) (tD X.K ct W mb)) : PE X (.BoolOp .Or (a :: b :: rest) pos) (tD X.K ct W (xOr ma mb)) := PE.imp (pe_or ha hb) (by
  rintro σ H Q ⟨F, as, env, cs, ok, sl, h⟩
  refine ⟨F, as, env, cs, ok, sl, out_imp (out_bnd h) fun d cs1 F1 H1 as1 g ok1 h1 v hv => ?_⟩
  split at h1
  · cases hv
    exact ⟨true, rfl, end_ok ok1 (.bl true) h1⟩
  · cases hv
    exact ⟨false, rfl, F1, as1, env, cs1, ok1, sl.gro g, h1⟩
  · exact False.elim h1)
theorem ge_not (ha : PE X a (tD X.K ct W ma)) : PE X (.UnaryOp .Not a pos) (tD X.K ct W (xNot ma)) := PE.imp (pe_not ha) (by
  rintro σ H Q ⟨F, as, env, cs, ok, sl, h⟩
  refine ⟨F, as, env, cs, ok, sl, out_imp (out_bnd h) fun d cs1 F1 H1 as1 g ok1 h1 v hv => ?_⟩
  split at h1
  · cases hv
    exact ⟨_, rfl, end_ok ok1 (.bl _) h1⟩
  · exact False.elim h1)
end
/-! ### argument lists, displays, calls of built-ins -/
def aNil : En → M (List D) := fun _ => M.ret []
def aCons (a : En → M D) (r : En → M (List D)) : En → M (List D) := fun env => M.bnd (a env) fun d => M.bnd (r env) fun ds => M.ret (d :: ds)
def xTup (a : En → M (List D)) : En → M D := fun env => M.bnd (a env) fun ds => if szOk ds.length = true then M.ret (.tup ds) else M.no
def xLst (c : Bool) (a : En → M (List D)) : En → M D := fun env => M.bnd (a env) fun ds => if szOk ds.length = true then mkL c ds else M.no
def xCall (g : List D → M D) (a : En → M (List D)) : En → M D := fun env => M.bnd (a env) g
def CallD (K : PySem.W.Frag) (ct : Ct) (r : List V → Hp → VK → Prop) (g : List D → M D) : Prop :=
  ∀ (W : WX) (n : Nat) (F H : Hp) (as : List Addr) (cs : Cs) (xs : List V) (ds : List D) (Q : VK), Ok K F H as cs → DvL K F as xs ds → out K ct W n F H as (g ds cs) (oD K Q) → r xs H Q
section
variable {X : Cx} {ct : Ct} {W : WX} {a e : Expr} {es : List Expr} {ma : En → M D} {mas : En → M (List D)} {pos : Pos}
theorem ga_nil : PA X [] (tA X.K ct W aNil) := PA.imp pa_nil (by
  rintro σ H Q ⟨F, as, env, cs, ok, sl, h⟩
  exact out_ok ok h _ .nil)
theorem ga_cons (ha : PE X e (tD X.K ct W ma)) (hr : PA X es (tA X.K ct W mas)) (hs : starEach (e :: es) X.env = (false, eval e X.env) :: starEach es X.env := by rfl) : PA X (e :: es) (tA X.K ct W (aCons ma mas)) := PA.imp (pa_cons ha hr hs) (by
  rintro σ H Q ⟨F, as, env, cs, ok, sl, h⟩
  refine ⟨F, as, env, cs, ok, sl, out_imp (out_bnd h) fun d cs1 F1 H1 as1 g ok1 h1 v hv => ?_⟩
  refine ⟨F1, as1, env, cs1, ok1, sl.gro g, out_imp (out_bnd h1) fun ds cs2 F2 H2 as2 g2 ok2 h2 vs hvs => ?_⟩
  exact out_ok ok2 h2 _ (.cons (hv.gro g2) hvs))
theorem ge_tup {k} (h : PA X es (tA X.K ct W mas)) : PE X (.Tuple es k pos) (tD X.K ct W (xTup mas)) := PE.imp (pe_tup h) (by
  rintro σ H Q ⟨F, as, env, cs, ok, sl, h⟩
  refine ⟨F, as, env, cs, ok, sl, out_imp (out_bnd h) fun ds cs1 F1 H1 as1 g ok1 h1 vs hvs => ?_⟩
  split at h1
  · rename_i q
    exact ⟨by rw [hvs.length]; exact szOk_le q, new_tup ok1 hvs h1⟩
  · exact False.elim h1)
theorem ge_lst (c : Bool) (h : PA X es (tA X.K ct W mas)) : PE X (.List es pos) (tD X.K ct W (xLst c mas)) := PE.imp (pe_lst h) (by
  rintro σ H Q ⟨F, as, env, cs, ok, sl, h⟩
  refine ⟨F, as, env, cs, ok, sl, out_imp (out_bnd h) fun ds cs1 F1 H1 as1 g ok1 h1 vs hvs => ?_⟩
  split at h1
  · rename_i q
    exact ⟨by rw [hvs.length]; exact szOk_le q, new_mk ok1 hvs h1⟩
  · exact False.elim h1)
theorem tCB_of {K : PySem.W.Frag} {r : List V → Hp → VK → Prop} {g : List D → M D} (cd : CallD K ct r g) {σ : L2.St} {H : Hp} {Q : VK} (h : tD K ct W (xCall g mas) σ H Q) : tCB r (tA K ct W mas) σ H Q := by
  obtain ⟨F, as, env, cs, ok, sl, h⟩ := h
  exact ⟨F, as, env, cs, ok, sl, out_imp (out_bnd h) fun ds cs1 F1 H1 as1 g ok1 h1 vs hvs => cd W _ F1 H1 as1 cs1 vs ds Q ok1 hvs h1⟩
variable {x : Str} {p : Pos} {id T : String} {r : List V → Hp → VK → Prop} {g : List D → M D}
theorem ge_callB (hc : CallR X (.builtin id) r) (cd : CallD X.K ct r g) (hg : Gl X x) (hm : X.mg x = none) (hv : bootBuiltins x = some (.builtin id)) (ha : PA X (e :: es) (tA X.K ct W mas)) (hn : x ≠ "__name__" := by decide) (hdb : (x == ("__debug__" : Str)) = false := by decide)
    (he : starEach (e :: es) X.env = (false, eval e X.env) :: starEach es X.env := by rfl) (hpl : (backTo pos (starEach es X.env)).any (·.1) = false := by rfl) : PE X (.Call (.Name x p) (e :: es) [] pos) (tD X.K ct W (xCall g mas)) :=
  PE.imp (pe_callB hc hg hm hv ha hn hdb he hpl) fun _ _ _ => tCB_of cd
theorem ge_callTy (hc : CallR X (.type T) r) (cd : CallD X.K ct r g) (hg : Gl X x) (hm : X.mg x = none) (hv : bootBuiltins x = some (.type T)) (ha : PA X (e :: es) (tA X.K ct W mas)) (hn : x ≠ "__name__" := by decide) (hdb : (x == ("__debug__" : Str)) = false := by decide)
    (he : starEach (e :: es) X.env = (false, eval e X.env) :: starEach es X.env := by rfl) (hpl : (backTo pos (starEach es X.env)).any (·.1) = false := by rfl) : PE X (.Call (.Name x p) (e :: es) [] pos) (tD X.K ct W (xCall g mas)) :=
  PE.imp (pe_callTy hc hg hm hv ha hn hdb he hpl) fun _ _ _ => tCB_of cd
end
end G
/-! G2: built-ins, slices, what is walked, comprehensions. -/
namespace G
open L2 PySem PySem.Spec PyProof.Rows
/-! ### len -/
def opLen : List D → M D
  | [.str x] => if szOk x.length = true then M.ret (.int x.length) else M.no
  | [d] => fun cs => match itsOf cs d with
    | some xs => .ok (.int xs.length) cs
    | none => .no
  | _ => M.no
section
variable {K : PySem.W.Frag} {ct : Ct}
theorem dvl1 {F : Hp} {as : List Addr} {vs : List V} {d : D} (h : DvL K F as vs [d]) : ∃ v, vs = [v] ∧ Dv K F as v d := by
  cases h with
  | cons h1 h2 =>
    cases h2
    exact ⟨_, rfl, h1⟩
theorem dvl2 {F : Hp} {as : List Addr} {vs : List V} {d e : D} (h : DvL K F as vs [d, e]) : ∃ v u, vs = [v, u] ∧ Dv K F as v d ∧ Dv K F as u e := by
  cases h with
  | cons h1 h2 =>
    obtain ⟨u, rfl, h3⟩ := dvl1 h2
    exact ⟨_, u, rfl, h1, h3⟩
theorem dvl3 {F : Hp} {as : List Addr} {vs : List V} {d e f : D} (h : DvL K F as vs [d, e, f]) : ∃ v u w, vs = [v, u, w] ∧ Dv K F as v d ∧ Dv K F as u e ∧ Dv K F as w f := by
  cases h with
  | cons h1 h2 =>
    obtain ⟨u, w, rfl, h3, h4⟩ := dvl2 h2
    exact ⟨_, u, w, rfl, h1, h3, h4⟩
theorem cd_len : CallD K ct (fun xs H Q => ∃ x n, xs = [x] ∧ LenV K x H n ∧ Q (.int n) H) opLen := fun W n F H as cs vs ds Q ok hv h => by
  unfold opLen at h
  split at h
  · split at h
    · rename_i x q
      obtain ⟨v, rfl, h1⟩ := dvl1 hv
      cases h1
      exact ⟨_, x.length, rfl, ⟨szOk_le q, rfl⟩, end_ok ok (.int _) h⟩
    · exact False.elim h
  · obtain ⟨v, rfl, h1⟩ := dvl1 hv
    try dsimp only at h
    split at h
    · rename_i xs e
      obtain ⟨a, ys, rfl, h2, l⟩ := its_at ok h1 e
      refine ⟨_, ys.length, rfl, ?_, by rw [l.length]; exact end_ok ok (.int _) h⟩
      rcases h2 with h2 | h2
      · exact .inl ⟨ys, h2, rfl⟩
      · exact .inr ⟨ys, h2, rfl⟩
    · exact False.elim h
  · exact False.elim h
/-! ### max, min, abs, int -/
def opMax2 : List D → M D
  | [.int i, .int j] => M.ret (.int (if j > i then j else i))
  | _ => M.no
def opMin2 : List D → M D
  | [.int i, .int j] => M.ret (.int (if j < i then j else i))
  | _ => M.no
def opMax3 : List D → M D
  | [.int a, .int b, .int c] => M.ret (.int (if b > a then (if c > b then c else b) else (if c > a then c else a)))
  | _ => M.no
def opAbs : List D → M D
  | [.int i] => M.ret (.int (if i < 0 then -i else i))
  | _ => M.no
def opInt : List D → M D
  | [.int i] => M.ret (.int i)
  | [.bl k] => M.ret (.int (if k then 1 else 0))
  | _ => M.no
theorem cd_max2 : CallD K ct (fun xs H Q => ∃ i j, xs = [.int i, .int j] ∧ Q (.int (if j > i then j else i)) H) opMax2 := fun W n F H as cs vs ds Q ok hv h => by
  unfold opMax2 at h
  split at h
  · obtain ⟨_, _, rfl, h1, h2⟩ := dvl2 hv
    cases h1
    cases h2
    exact ⟨_, _, rfl, end_ok ok (.int _) h⟩
  · exact False.elim h
theorem cd_min2 : CallD K ct (fun xs H Q => ∃ i j, xs = [.int i, .int j] ∧ Q (.int (if j < i then j else i)) H) opMin2 := fun W n F H as cs vs ds Q ok hv h => by
  unfold opMin2 at h
  split at h
  · obtain ⟨_, _, rfl, h1, h2⟩ := dvl2 hv
    cases h1
    cases h2
    exact ⟨_, _, rfl, end_ok ok (.int _) h⟩
  · exact False.elim h
theorem cr_max3 {X : Cx} (hc : X.calm = true) : CallR X (.builtin "max") (fun xs H Q => ∃ a b c, xs = [.int a, .int b, .int c] ∧ Q (.int (if b > a then (if c > b then c else b) else (if c > a then c else a))) H) := by
  intro pins s σ H xs us Q I r h
  obtain ⟨a, b, c, rfl, q⟩ := h
  cases r with
  | cons r1 r =>
    obtain ⟨u2, u3, rfl, ⟨t2, rfl⟩, ⟨t3, rfl⟩⟩ := vals2 r
    obtain ⟨t1, rfl⟩ := r1
    refine PySem.max_three_ints (I.ok.hd hc) fun h' tk k => ⟨_, H, I.kept k, ?_, q⟩
    by_cases hba : b > a <;> by_cases hc1 : c > b <;> by_cases hc2 : c > a <;> simp only [hba, hc1, hc2, if_true, if_false] <;> exact ⟨_, rfl⟩
theorem cd_max3 : CallD K ct (fun xs H Q => ∃ a b c, xs = [.int a, .int b, .int c] ∧ Q (.int (if b > a then (if c > b then c else b) else (if c > a then c else a))) H) opMax3 := fun W n F H as cs vs ds Q ok hv h => by
  unfold opMax3 at h
  split at h
  · obtain ⟨_, _, _, rfl, h1, h2, h3⟩ := dvl3 hv
    cases h1
    cases h2
    cases h3
    exact ⟨_, _, _, rfl, end_ok ok (.int _) h⟩
  · exact False.elim h
theorem cd_abs : CallD K ct (fun xs H Q => ∃ i, xs = [.int i] ∧ Q (.int (if i < 0 then -i else i)) H) opAbs := fun W n F H as cs vs ds Q ok hv h => by
  unfold opAbs at h
  split at h
  · obtain ⟨_, rfl, h1⟩ := dvl1 hv
    cases h1
    exact ⟨_, rfl, end_ok ok (.int _) h⟩
  · exact False.elim h
theorem cd_int : CallD K ct (fun xs H Q => (∃ i, xs = [.int i] ∧ Q (.int i) H) ∨ ∃ k, xs = [.bl k] ∧ Q (.int (if k then 1 else 0)) H) opInt := fun W n F H as cs vs ds Q ok hv h => by
  unfold opInt at h
  split at h
  · obtain ⟨_, rfl, h1⟩ := dvl1 hv
    cases h1
    exact .inl ⟨_, rfl, end_ok ok (.int _) h⟩
  · obtain ⟨_, rfl, h1⟩ := dvl1 hv
    cases h1
    exact .inr ⟨_, rfl, end_ok ok (.int _) h⟩
  · exact False.elim h
/-! ### list(xs), tuple(xs) -/
def opList (c : Bool) : List D → M D
  | [d] => fun cs => match itsOf cs d with
    | some xs => mkL c xs cs
    | none => .no
  | _ => M.no
def opTuple : List D → M D
  | [d] => fun cs => match seqOf cs d with
    | some xs => .ok (.tup xs) cs
    | none => .no
  | _ => M.no
theorem cd_list (c : Bool) : CallD K ct (fun xs H Q => ∃ p ys, xs = [.ref p] ∧ (SqL K H p ys ∨ SqT K H p ys) ∧ ∀ l, H l = none → Q (.ref l) (upd H l (.lst ys))) (opList c) := fun W n F H as cs vs ds Q ok hv h => by
  unfold opList at h
  split at h
  · obtain ⟨v, rfl, h1⟩ := dvl1 hv
    try dsimp only at h
    split at h
    · rename_i xs e
      obtain ⟨a, ys, rfl, h2, l⟩ := its_at ok h1 e
      exact ⟨a, ys, rfl, h2, new_mk ok l h⟩
    · exact False.elim h
  · exact False.elim h
theorem cd_tuple : CallD K ct (fun xs H Q => ∃ p ys, xs = [.ref p] ∧ ((SqL K H p ys ∧ ∀ l, H l = none → Q (.ref l) (upd H l (.tup ys))) ∨ (SqT K H p ys ∧ Q (.ref p) H))) opTuple := fun W n F H as cs vs ds Q ok hv h => by
  unfold opTuple at h
  split at h
  · obtain ⟨v, rfl, h1⟩ := dvl1 hv
    try dsimp only at h
    split at h
    · rename_i xs e
      obtain ⟨a, ys, rfl, h2, l⟩ := seq_at ok h1 e
      exact ⟨a, ys, rfl, .inl ⟨h2, new_tup ok l h⟩⟩
    · exact False.elim h
  · exact False.elim h
/-! ### sum, all -/
def intsOf : List D → Option (List Int)
  | [] => some []
  | .int i :: r => (intsOf r).map (i :: ·)
  | _ => none
def blsOf : List D → Option (List Bool)
  | [] => some []
  | .bl i :: r => (blsOf r).map (i :: ·)
  | _ => none
theorem intsOf_eq {F : Hp} {as : List Addr} : ∀ {vs : List V} {ds : List D} {ns : List Int}, DvL K F as vs ds → intsOf ds = some ns → vs = ns.map V.int
  | _, _, _, .nil, e => by
    cases e
    rfl
  | _, _, ns, .cons (d := d) (ds := ds) h t, e => by
    cases h with
    | int i =>
      have e2 : (intsOf ds).map (i :: ·) = some ns := e
      cases q : intsOf ds with
      | none =>
        rw [q] at e2
        cases e2
      | some r =>
        rw [q] at e2
        cases e2
        rw [intsOf_eq t q]
        rfl
    | _ => cases e
theorem blsOf_eq {F : Hp} {as : List Addr} : ∀ {vs : List V} {ds : List D} {ns : List Bool}, DvL K F as vs ds → blsOf ds = some ns → vs = ns.map V.bl
  | _, _, _, .nil, e => by
    cases e
    rfl
  | _, _, ns, .cons (d := d) (ds := ds) h t, e => by
    cases h with
    | bl i =>
      have e2 : (blsOf ds).map (i :: ·) = some ns := e
      cases q : blsOf ds with
      | none =>
        rw [q] at e2
        cases e2
      | some r =>
        rw [q] at e2
        cases e2
        rw [blsOf_eq t q]
        rfl
    | _ => cases e
def opSum : List D → M D
  | [d] => fun cs => match (seqOf cs d).bind intsOf with
    | some ns => .ok (.int ns.sum) cs
    | none => .no
  | _ => M.no
def opAll : List D → M D
  | [d] => fun cs => match (seqOf cs d).bind blsOf with
    | some bs => .ok (.bl (bs.all id)) cs
    | none => .no
  | _ => M.no
theorem cd_sum : CallD K ct (rSum K) opSum := fun W n F H as cs vs ds Q ok hv h => by
  unfold opSum at h
  split at h
  · obtain ⟨v, rfl, h1⟩ := dvl1 hv
    try dsimp only at h
    split at h
    · rename_i ns e
      obtain ⟨xs, e1, e2⟩ := Option.bind_eq_some_iff.mp e
      obtain ⟨a, ys, rfl, h2, l⟩ := seq_at ok h1 e1
      rw [intsOf_eq l e2] at h2
      exact ⟨a, ns, rfl, h2, end_ok ok (.int _) h⟩
    · exact False.elim h
  · exact False.elim h
theorem cd_all : CallD K ct (rAll K) opAll := fun W n F H as cs vs ds Q ok hv h => by
  unfold opAll at h
  split at h
  · obtain ⟨v, rfl, h1⟩ := dvl1 hv
    try dsimp only at h
    split at h
    · rename_i ns e
      obtain ⟨xs, e1, e2⟩ := Option.bind_eq_some_iff.mp e
      obtain ⟨a, ys, rfl, h2, l⟩ := seq_at ok h1 e1
      rw [blsOf_eq l e2] at h2
      exact ⟨a, ns, rfl, h2, end_ok ok (.bl _) h⟩
    · exact False.elim h
  · exact False.elim h
/-! ### sorted, of pairs of ints -/
def pairD (p : Int × Int) : D := .tup [.int p.1, .int p.2]
def pairsOf : List D → Option (List (Int × Int))
  | [] => some []
  | .tup [.int i, .int j] :: r => (pairsOf r).map ((i, j) :: ·)
  | _ => none
theorem pairsOf_map : ∀ {ds : List D} {ps : List (Int × Int)}, pairsOf ds = some ps → ds = ps.map pairD
  | [], ps, e => by
    cases e
    rfl
  | .tup [.int i, .int j] :: r, ps, e => by
    have e2 : (pairsOf r).map ((i, j) :: ·) = some ps := e
    cases q : pairsOf r with
    | none =>
      rw [q] at e2
      cases e2
    | some s =>
      rw [q] at e2
      cases e2
      rw [pairsOf_map q]
      rfl
  | .non :: _, _, e | .bl _ :: _, _, e | .int _ :: _, _, e | .str _ :: _, _, e | .lst _ :: _, _, e | .ref _ :: _, _, e | .dic :: _, _, e | .scr _ :: _, _, e => by cases e
  | .tup [] :: _, _, e | .tup [_] :: _, _, e | .tup (_ :: _ :: _ :: _) :: _, _, e => by
    first
      | cases e
      | (simp [pairsOf] at e)
  | .tup [.int _, .non] :: _, _, e | .tup [.int _, .bl _] :: _, _, e | .tup [.int _, .str _] :: _, _, e | .tup [.int _, .tup _] :: _, _, e | .tup [.int _, .lst _] :: _, _, e | .tup [.int _, .ref _] :: _, _, e | .tup [.int _, .dic] :: _, _, e | .tup [.int _, .scr _] :: _, _, e => by cases e
  | .tup [.non, _] :: _, _, e | .tup [.bl _, _] :: _, _, e | .tup [.str _, _] :: _, _, e | .tup [.tup _, _] :: _, _, e | .tup [.lst _, _] :: _, _, e | .tup [.ref _, _] :: _, _, e | .tup [.dic, _] :: _, _, e | .tup [.scr _, _] :: _, _, e => by cases e
/-- lexicographic -/
def lexLe (p q : Int × Int) : Bool := decide (p.1 < q.1 ∨ (p.1 = q.1 ∧ p.2 ≤ q.2))
def insP (p : Int × Int) : List (Int × Int) → List (Int × Int)
  | [] => [p]
  | q :: r => if lexLe p q = true then p :: q :: r else q :: insP p r
def sortP : List (Int × Int) → List (Int × Int)
  | [] => []
  | p :: r => insP p (sortP r)
theorem lexLe_total (p q : Int × Int) (h : ¬ lexLe p q = true) : lexLe q p = true := by
  unfold lexLe at h ⊢
  rw [decide_eq_true_eq] at h ⊢
  omega
theorem lexLe_trans {p q r : Int × Int} (h : lexLe p q = true) (h2 : lexLe q r = true) : lexLe p r = true := by
  unfold lexLe at h h2 ⊢
  rw [decide_eq_true_eq] at h h2 ⊢
  omega
theorem lexLe_anti {p q : Int × Int} (h : lexLe p q = true) (h2 : lexLe q p = true) : p = q := by
  unfold lexLe at h h2
  rw [decide_eq_true_eq] at h h2
  exact Prod.ext (by omega) (by omega)
theorem insP_perm (p : Int × Int) : ∀ l, (insP p l).Perm (p :: l)
  | [] => List.Perm.refl _
  | q :: r => by
    unfold insP
    split
    · exact List.Perm.refl _
    · exact ((insP_perm p r).cons q).trans (List.Perm.swap p q r)
theorem sortP_perm : ∀ l, (sortP l).Perm l
  | [] => List.Perm.refl _
  | p :: r => (insP_perm p (sortP r)).trans ((sortP_perm r).cons p)
theorem insP_sorted (p : Int × Int) : ∀ l, l.Pairwise (fun a b => lexLe a b = true) → (insP p l).Pairwise fun a b => lexLe a b = true
  | [], _ => List.pairwise_singleton _ _
  | q :: r, h => by
    unfold insP
    split
    · rename_i hp
      refine List.pairwise_cons.mpr ⟨fun x hx => ?_, h⟩
      rcases List.mem_cons.mp hx with e | e
      · rw [e]
        exact hp
      · exact lexLe_trans hp ((List.pairwise_cons.mp h).1 x e)
    · rename_i hp
      refine List.pairwise_cons.mpr ⟨fun x hx => ?_, insP_sorted p r (List.pairwise_cons.mp h).2⟩
      rcases List.mem_cons.mp ((insP_perm p r).mem_iff.mp hx) with e | e
      · rw [e]
        exact lexLe_total p q hp
      · exact (List.pairwise_cons.mp h).1 x e
theorem sortP_sorted : ∀ l, (sortP l).Pairwise fun a b => lexLe a b = true
  | [] => List.Pairwise.nil
  | p :: r => insP_sorted p _ (sortP_sorted r)
theorem sorted_one : ∀ {l m : List (Int × Int)}, l.Perm m → l.Pairwise (fun a b => lexLe a b = true) → m.Pairwise (fun a b => lexLe a b = true) → l = m
  | [], m, p, _, _ => (List.nil_perm.mp p).symm
  | a :: l, [], p, _, _ => absurd p.length_eq (by simp)
  | a :: l, b :: m, p, h1, h2 => by
    have e : a = b := by
      have ha : a ∈ b :: m := p.mem_iff.mp List.mem_cons_self
      have hb : b ∈ a :: l := p.mem_iff.mpr List.mem_cons_self
      rcases List.mem_cons.mp ha with z | z
      · exact z
      · rcases List.mem_cons.mp hb with y | y
        · exact y.symm
        · exact lexLe_anti ((List.pairwise_cons.mp h1).1 b y) ((List.pairwise_cons.mp h2).1 a z)
    subst e
    rw [sorted_one ((List.perm_cons a).mp p) (List.pairwise_cons.mp h1).2 (List.pairwise_cons.mp h2).2]
def opSorted (c : Bool) : List D → M D
  | [d] => fun cs => match (seqOf cs d).bind pairsOf with
    | some ps => mkL c ((sortP ps).map pairD) cs
    | none => .no
  | _ => M.no
theorem cd_sorted (c : Bool) : CallD K ct (rSortedPO K) (opSorted c) := fun W n F H as cs vs ds Q ok hv h => by
  unfold opSorted at h
  split at h
  · obtain ⟨v, rfl, h1⟩ := dvl1 hv
    try dsimp only at h
    split at h
    · rename_i ps e
      obtain ⟨xs, e1, e2⟩ := Option.bind_eq_some_iff.mp e
      obtain ⟨a, ys, rfl, h2, l⟩ := seq_at ok h1 e1
      have ex := pairsOf_map e2
      -- each item's pair
      have key : ∀ y ∈ ys, ∃ p : Int × Int, p ∈ ps ∧ ∃ t, y = V.ref t ∧ F t = some (.tup [.int p.1, .int p.2]) := fun y hy => by
        obtain ⟨i, hi⟩ := List.mem_iff_getElem?.mp hy
        obtain ⟨d, hd, hv⟩ := l.getV hi
        rw [ex, List.getElem?_map] at hd
        cases q : ps[i]? with
        | none =>
          rw [q] at hd
          cases hd
        | some p =>
          rw [q] at hd
          have ed : pairD p = d := Option.some.inj hd
          subst ed
          cases hv with
          | tup ht hl =>
            obtain ⟨u1, u2, rfl, w1, w2⟩ := dvl2 hl
            cases w1
            cases w2
            exact ⟨p, List.mem_of_getElem? q, _, rfl, ht⟩
      let k : V → Int × Int := fun y => match y with
        | .ref t => (match F t with
          | some (.tup [.int i, .int j]) => (i, j)
          | _ => (0, 0))
        | _ => (0, 0)
      have hk : ∀ t i j, F t = some (.tup [.int i, .int j]) → k (.ref t) = (i, j) := fun t i j e => by
        show (match F t with
          | some (.tup [.int i, .int j]) => (i, j)
          | _ => (0, 0)) = (i, j)
        rw [e]
      have hmap : ys.map k = ps := by
        apply List.ext_getElem?
        intro i
        rw [List.getElem?_map]
        cases q : ys[i]? with
        | none =>
          have hl := l.length
          rw [ex, List.length_map] at hl
          have : ys.length ≤ i := List.getElem?_eq_none_iff.mp q
          rw [List.getElem?_eq_none (by omega)]
          rfl
        | some y =>
          obtain ⟨d, hd, hv⟩ := l.getV q
          rw [ex, List.getElem?_map] at hd
          cases q2 : ps[i]? with
          | none =>
            rw [q2] at hd
            cases hd
          | some p =>
            rw [q2] at hd
            have ed : pairD p = d := Option.some.inj hd
            subst ed
            cases hv with
            | tup ht hl =>
              obtain ⟨u1, u2, rfl, w1, w2⟩ := dvl2 hl
              cases w1
              cases w2
              rw [Option.map_some, hk _ _ _ ht]
      refine ⟨a, ys, k, rfl, h2, fun y hy => ?_, fun zs p hs hb hp => ?_⟩
      · obtain ⟨q, _, t, rfl, ht⟩ := key y hy
        exact ⟨t, rfl, by rw [hk _ _ _ ht]; exact ok.fh _ _ ht⟩
      · have hz : zs.map k = sortP ps := by
          refine sorted_one ((hb.perm.map k).trans (by rw [hmap]; exact (sortP_perm ps).symm)) ?_ (sortP_sorted ps)
          rw [List.pairwise_map]
          refine List.Pairwise.imp (fun {x y} hxy => ?_) hs
          have := SrtO.lexB_no.mp hxy
          unfold lexLe
          rw [decide_eq_true_eq]
          omega
        have hd : DvL K F as zs ((sortP ps).map pairD) := by
          rw [← hz, List.map_map]
          have sub : ∀ y ∈ zs, ∃ p : Int × Int, p ∈ ps ∧ ∃ t, y = V.ref t ∧ F t = some (.tup [.int p.1, .int p.2]) := fun y hy => key y (hb.perm.mem_iff.mp hy)
          clear hs hb hz
          induction zs with
          | nil => exact .nil
          | cons y r ih =>
            refine .cons ?_ (ih fun y hy => sub y (List.mem_cons_of_mem _ hy))
            obtain ⟨q, _, t, rfl, ht⟩ := sub y List.mem_cons_self
            show Dv K F as (.ref t) (pairD (k (.ref t)))
            rw [hk _ _ _ ht]
            exact .tup ht (.cons (.int _) (.cons (.int _) .nil))
        exact new_mk ok hd h p hp
    · exact False.elim h
  · exact False.elim h
end
/-! ### join -/
def strsOf : List D → Option (List Str)
  | [] => some []
  | .str i :: r => (strsOf r).map (i :: ·)
  | _ => none
section
variable {K : PySem.W.Frag} {ct : Ct}
theorem strsOf_eq {F : Hp} {as : List Addr} : ∀ {vs : List V} {ds : List D} {ns : List Str}, DvL K F as vs ds → strsOf ds = some ns → vs = ns.map V.str
  | _, _, _, .nil, e => by
    cases e
    rfl
  | _, _, ns, .cons (d := d) (ds := ds) h t, e => by
    cases h with
    | str i =>
      have e2 : (strsOf ds).map (i :: ·) = some ns := e
      cases q : strsOf ds with
      | none =>
        rw [q] at e2
        cases e2
      | some r =>
        rw [q] at e2
        cases e2
        rw [strsOf_eq t q]
        rfl
    | _ => cases e
end
def opJoin (a : Str) : D → M D := fun d cs => match (seqOf cs d).bind strsOf with
  | some ys => if szOk ((ys.map (·.length)).sum + ys.length * a.length) = true then .ok (.str (Txt.join a ys)) cs else .no
  | none => .no
section
variable {X : Cx} {ct : Ct} {W : WX} {a e : Expr} {ma me : En → M D} {pos apos : Pos}
theorem ge_join {z : Str} {j : Nat} {zp : Pos} (he : PE X e (tD X.K ct W me)) (hs : starEach [e] X.env = [(false, eval e X.env)] := by rfl) (hbase : attributeBase (.Constant (.str z) j zp) "join" X.env (eval (.Constant (.str z) j zp) X.env) = eval (.Constant (.str z) j zp) X.env := by rfl) (hline : (apos.endLine == pos.line) = true := by rfl) :
    PE X (.Call (.Attribute (.Constant (.str z) j zp) "join" apos) [e] [] pos) (tD X.K ct W (xUn (opJoin z) me)) := PE.imp (pe_join pe_str he hs hbase hline) (by
  rintro σ H Q ⟨F, as, env, cs, ok, sl, h⟩
  refine ⟨⟨z, rfl⟩, F, as, env, cs, ok, sl, out_imp (out_bnd h) fun f cs2 F2 H2 as2 g2 ok2 h2 u hu => ?_⟩
  unfold opJoin at h2
  split at h2
  · rename_i ys q
    split at h2
    · rename_i q2
      obtain ⟨xs, e1, e2⟩ := Option.bind_eq_some_iff.mp q
      obtain ⟨p, zs, rfl, h3, l⟩ := seq_at ok2 hu e1
      rw [strsOf_eq l e2] at h3
      exact ⟨z, p, ys, rfl, rfl, .inl h3, Nat.le_trans (of_decide_eq_true q2) (by decide), end_ok ok2 (.str _) h2⟩
    · exact False.elim h2
  · exact False.elim h2)
/-! ### isinstance -/
inductive Ty where
  | int | bool | str | tuple | list
def Ty.nm : Ty → String
  | .int => "int"
  | .bool => "bool"
  | .str => "str"
  | .tuple => "tuple"
  | .list => "list"
def isD : Ty → D → Bool
  | .int, .int _ => true
  | .int, .bl _ => true
  | .bool, .bl _ => true
  | .str, .str _ => true
  | .tuple, .tup _ => true
  | .list, .lst _ => true
  | .list, .ref _ => true
  | .list, .scr _ => true
  | _, _ => false
def tyN : D → String
  | .non => "NoneType"
  | .bl _ => "bool"
  | .int _ => "int"
  | .str _ => "str"
  | .tup _ => "tuple"
  | .dic => "dict"
  | _ => "list"
theorem kit_non : ∀ T : Ty, kitB (tyN .non) T.nm = some (isD T .non)
  | .int => by decide +kernel
  | .bool => by decide +kernel
  | .str => by decide +kernel
  | .tuple => by decide +kernel
  | .list => by decide +kernel
theorem kit_bl : ∀ T : Ty, kitB (tyN (.bl true)) T.nm = some (isD T (.bl true))
  | .int => by decide +kernel
  | .bool => by decide +kernel
  | .str => by decide +kernel
  | .tuple => by decide +kernel
  | .list => by decide +kernel
theorem kit_int : ∀ T : Ty, kitB (tyN (.int 0)) T.nm = some (isD T (.int 0))
  | .int => by decide +kernel
  | .bool => by decide +kernel
  | .str => by decide +kernel
  | .tuple => by decide +kernel
  | .list => by decide +kernel
theorem kit_str : ∀ T : Ty, kitB (tyN (.str Str.empty)) T.nm = some (isD T (.str Str.empty))
  | .int => by decide +kernel
  | .bool => by decide +kernel
  | .str => by decide +kernel
  | .tuple => by decide +kernel
  | .list => by decide +kernel
theorem kit_tup : ∀ T : Ty, kitB (tyN (.tup [])) T.nm = some (isD T (.tup []))
  | .int => by decide +kernel
  | .bool => by decide +kernel
  | .str => by decide +kernel
  | .tuple => by decide +kernel
  | .list => by decide +kernel
theorem kit_lst : ∀ T : Ty, kitB (tyN (.lst [])) T.nm = some (isD T (.lst []))
  | .int => by decide +kernel
  | .bool => by decide +kernel
  | .str => by decide +kernel
  | .tuple => by decide +kernel
  | .list => by decide +kernel
theorem kit_ref : ∀ T : Ty, kitB (tyN (.ref 0)) T.nm = some (isD T (.ref 0))
  | .int => by decide +kernel
  | .bool => by decide +kernel
  | .str => by decide +kernel
  | .tuple => by decide +kernel
  | .list => by decide +kernel
theorem kit_dic : ∀ T : Ty, kitB (tyN .dic) T.nm = some (isD T .dic)
  | .int => by decide +kernel
  | .bool => by decide +kernel
  | .str => by decide +kernel
  | .tuple => by decide +kernel
  | .list => by decide +kernel
theorem kit_scr : ∀ T : Ty, kitB (tyN (.scr [])) T.nm = some (isD T (.scr []))
  | .int => by decide +kernel
  | .bool => by decide +kernel
  | .str => by decide +kernel
  | .tuple => by decide +kernel
  | .list => by decide +kernel
theorem kit_isD (T : Ty) (d : D) : kitB (tyN d) T.nm = some (isD T d) := by
  cases d with
  | non => exact (kit_non T).trans (by cases T <;> rfl)
  | bl _ => exact (kit_bl T).trans (by cases T <;> rfl)
  | int _ => exact (kit_int T).trans (by cases T <;> rfl)
  | str _ => exact (kit_str T).trans (by cases T <;> rfl)
  | tup _ => exact (kit_tup T).trans (by cases T <;> rfl)
  | lst _ => exact (kit_lst T).trans (by cases T <;> rfl)
  | ref _ => exact (kit_ref T).trans (by cases T <;> rfl)
  | dic => exact (kit_dic T).trans (by cases T <;> rfl)
  | scr _ => exact (kit_scr T).trans (by cases T <;> rfl)
theorem tyX_of {K : PySem.W.Frag} {F H : Hp} {as : List Addr} {cs : Cs} {v : V} {d : D} (ok : Ok K F H as cs) (h : Dv K F as v d) : TyX K H v (.type (tyN d)) := by
  cases h with
  | non => exact .base .non
  | bl b => exact .base (.bl b)
  | int i => exact .base (.int i)
  | str x => exact .base (.str x)
  | tup h _ => exact .base (.tup (ok.fh _ _ h))
  | lst h _ => exact .base (.lst (ok.fh _ _ h))
  | ref h =>
    obtain ⟨_, ys, h2⟩ := ok.old (List.mem_of_getElem? h)
    exact .base (.lst h2)
  | dic h => exact .base (.dK (ok.fh _ _ h))
  | scr h =>
    rcases ext_l ok.fh h with (h | ⟨o, h⟩) | ⟨o, its, n, h1, h2, _⟩
    · exact .base (.lst h)
    · exact .base (.frz h)
    · exact .kList h1 h2
def opIs (T : Ty) : D → M D := fun d => M.ret (.bl (isD T d))
theorem ge_isi {T : Ty} {x : Str} {p p2 : Pos} (hg : Gl X "isinstance") (hm : X.mg "isinstance" = none) (hg2 : Gl X x) (hm2 : X.mg x = none) (hv2 : bootBuiltins x = some (.type T.nm)) (he : PE X e (tD X.K ct W me)) (hn : x ≠ "__name__" := by decide) (hdb : (x == ("__debug__" : Str)) = false := by decide)
    (hs : starEach [e, .Name x p2] X.env = (false, eval e X.env) :: starEach [.Name x p2] X.env := by rfl) (hs2 : starEach [.Name x p2] X.env = (false, eval (.Name x p2) X.env) :: starEach [] X.env := by rfl) (hpl : (backTo pos (starEach [.Name x p2] X.env)).any (·.1) = false := by rfl) :
    PE X (.Call (.Name "isinstance" p) [e, .Name x p2] [] pos) (tD X.K ct W (xUn (opIs T) me)) := PE.imp (pe_callB call_isi hg hm (by decide +kernel) (pa_cons he (pa_cons (pe_bltn (v := .ty T.nm) hg2 hm2 hv2 rfl hn hdb) pa_nil hs2) hs) (by decide) (by decide) hs hpl) (by
  rintro σ H Q ⟨F, as, env, cs, ok, sl, h⟩
  refine ⟨F, as, env, cs, ok, sl, out_imp (out_bnd h) fun d cs1 F1 H1 as1 g ok1 h1 v hv => ?_⟩
  exact ⟨v, .ty T.nm, .type (tyN d), .type T.nm, isD T d, rfl, .ty _, tyX_of ok1 hv, kit_ty (kit_isD T d), end_ok ok1 (.bl _) h1⟩)
/-! ### slices -/
def cutD (xs : List D) (lo hi : Option Int) : List D := (xs.drop (HT.sIx xs.length 0 lo)).take (HT.sIx xs.length xs.length hi - HT.sIx xs.length 0 lo)
theorem DvL.cut {K : PySem.W.Frag} {F : Hp} {as : List Addr} {vs : List V} {ds : List D} (h : DvL K F as vs ds) (lo hi : Option Int) : DvL K F as (cutV vs lo hi) (cutD ds lo hi) := by
  unfold cutV cutD
  rw [h.length]
  exact (h.drop _).take _
/-- a slice's part -/
def pNo : En → M (Option Int) := fun _ => M.ret none
def pSome (a : En → M D) : En → M (Option Int) := fun env => M.bnd (a env) fun d => match d with
  | .int i => M.ret (some i)
  | _ => M.no
def tO (K : PySem.W.Frag) (ct : Ct) (W : WX) (m : En → M (Option Int)) : TO := fun σ H Q => ∃ F as env cs, Ok K F H as cs ∧ Sl K F as σ env ∧ out K ct W σ.length F H as (m env cs) fun o _ _ H' _ => Q o H'
theorem PO.imp {o : Option Expr} {t t' : TO} (h : PO X o t) (k : ∀ σ H Q, t' σ H Q → t σ H Q) : PO X o t' := ⟨fun pins s σ H Q I w => h.run pins s σ H Q I (k σ H Q w)⟩
theorem go_no : PO X none (tO X.K ct W pNo) := PO.imp po_none (by
  rintro σ H Q ⟨F, as, env, cs, ok, sl, h⟩
  exact out_ok ok h)
theorem go_some (h : PE X e (tD X.K ct W me)) : PO X (some e) (tO X.K ct W (pSome me)) := PO.imp (po_some h) (by
  rintro σ H Q ⟨F, as, env, cs, ok, sl, h⟩
  refine ⟨F, as, env, cs, ok, sl, out_imp (out_bnd h) fun d cs1 F1 H1 as1 g ok1 h1 v hv => ?_⟩
  split at h1
  · cases hv
    exact ⟨_, rfl, out_ok ok1 h1⟩
  · exact False.elim h1)
def xSl (c : Bool) (a : En → M D) (lo hi : En → M (Option Int)) : En → M D := fun env => M.bnd (a env) fun d => M.bnd (lo env) fun l => M.bnd (hi env) fun u => fun cs => match seqOf cs d with
  | some xs => mkL c (cutD xs l u) cs
  | none => .no
theorem ge_sl (c : Bool) {lo hi : Option Expr} {ml mh : En → M (Option Int)} {p2 : Pos} (he : PE X e (tD X.K ct W me)) (hl : PO X lo (tO X.K ct W ml)) (hh : PO X hi (tO X.K ct W mh)) : PE X (.Subscript e (.Slice lo hi none p2) pos) (tD X.K ct W (xSl c me ml mh)) := PE.imp (pe_slice sl_list he hl hh) (by
  rintro σ H Q ⟨F, as, env, cs, ok, sl, h⟩
  refine ⟨F, as, env, cs, ok, sl, out_imp (out_bnd h) fun d cs1 F1 H1 as1 g1 ok1 h1 v hv => ?_⟩
  refine ⟨F1, as1, env, cs1, ok1, sl.gro g1, out_imp (out_bnd h1) fun l cs2 F2 H2 as2 g2 ok2 h2 => ?_⟩
  refine ⟨F2, as2, env, cs2, ok2, (sl.gro g1).gro g2, out_imp (out_bnd h2) fun u cs3 F3 H3 as3 g3 ok3 h3 => ?_⟩
  try dsimp only at h3
  split at h3
  · rename_i xs q
    obtain ⟨a, ys, rfl, h4, lk⟩ := seq_at ok3 ((hv.gro g2).gro g3) q
    exact ⟨a, ys, rfl, h4, new_mk ok3 (lk.cut l u) h3⟩
  · exact False.elim h3)
/-- xs[::-1] -/
def opRev (c : Bool) : D → M D := fun d cs => match seqOf cs d with
  | some xs => mkL c xs.reverse cs
  | none => .no
theorem ge_rev (c : Bool) {k : Nat} {p1 p2 p3 : Pos} (he : PE X e (tD X.K ct W me)) : PE X (.Subscript e (.Slice none none (some (.UnaryOp .USub (.Constant (.int 1) k p1) p2)) p3) pos) (tD X.K ct W (xUn (opRev c) me)) := PE.imp (pe_revL he) (by
  rintro σ H Q ⟨F, as, env, cs, ok, sl, h⟩
  refine ⟨F, as, env, cs, ok, sl, out_imp (out_bnd h) fun d cs1 F1 H1 as1 g1 ok1 h1 v hv => ?_⟩
  unfold opRev at h1
  split at h1
  · rename_i xs q
    obtain ⟨a, ys, rfl, h4, lk⟩ := seq_at ok1 hv q
    exact ⟨a, ys, rfl, h4, new_mk ok1 lk.rev h1⟩
  · exact False.elim h1)
/-! ### list(range(..)), tuple(range(..)) -/
def rngD (a : Int) (n : Nat) : List D := (List.range n).map fun i => .int (a + (i : Nat))
theorem rng_dv {K : PySem.W.Frag} {F : Hp} {as : List Addr} (a b : Int) : DvL K F as (rgV a b) (rngD a (b - a).toNat) := by
  unfold rgV rngD
  generalize List.range (b - a).toNat = l
  induction l with
  | nil => exact .nil
  | cons i r ih => exact .cons (.int _) ih
def rgOk (a b : Int) : Bool := decide (-(2 ^ 62) ≤ a ∧ a < 2 ^ 62 ∧ -(2 ^ 62) ≤ b ∧ b < 2 ^ 62) && szOk (b - a).toNat
theorem rgOk_ok {a b : Int} (h : rgOk a b = true) : RgOk a b := by
  obtain ⟨h1, h2⟩ := Bool.and_eq_true_iff.mp h
  obtain ⟨h3, h4, h5, h6⟩ := of_decide_eq_true h1
  exact ⟨h3, h4, h5, h6, Nat.le_trans (of_decide_eq_true h2) (by decide)⟩
def opRg (tu c : Bool) : D → M D
  | .int b => if rgOk 0 b = true then (if tu = true then M.ret (.tup (rngD 0 (b - 0).toNat)) else mkL c (rngD 0 (b - 0).toNat)) else M.no
  | _ => M.no
theorem ge_listRg (c : Bool) {p p2 p3 : Pos} (hc : X.calm = true) (hg : Gl X "list") (hm : X.mg "list" = none) (hg2 : Gl X "range") (hm2 : X.mg "range" = none) (he : PE X e (tD X.K ct W me)) (na : starEach [e] X.env = (false, eval e X.env) :: starEach [] X.env := by rfl)
    (nb : starEach [.Call (.Name "range" p2) [e] [] p3] X.env = (false, eval (.Call (.Name "range" p2) [e] [] p3) X.env) :: starEach [] X.env := by rfl) : PE X (.Call (.Name "list" p) [.Call (.Name "range" p2) [e] [] p3] [] pos) (tD X.K ct W (xUn (opRg false c) me)) := PE.imp (pe_listRg hc hg hm (prg_1 hg2 hm2 he na) nb) (by
  rintro σ H Q ⟨F, as, env, cs, ok, sl, h⟩
  refine ⟨F, as, env, cs, ok, sl, out_imp (out_bnd h) fun d cs1 F1 H1 as1 g1 ok1 h1 v hv => ?_⟩
  unfold opRg at h1
  split at h1
  · split at h1
    · rename_i b q
      cases hv
      exact ⟨b, rfl, rgOk_ok q, new_mk ok1 (rng_dv 0 b) h1⟩
    · exact False.elim h1
  · exact False.elim h1)
theorem ge_tupRg {p p2 p3 : Pos} (hc : X.calm = true) (hg : Gl X "tuple") (hm : X.mg "tuple" = none) (hg2 : Gl X "range") (hm2 : X.mg "range" = none) (he : PE X e (tD X.K ct W me)) (na : starEach [e] X.env = (false, eval e X.env) :: starEach [] X.env := by rfl)
    (nb : starEach [.Call (.Name "range" p2) [e] [] p3] X.env = (false, eval (.Call (.Name "range" p2) [e] [] p3) X.env) :: starEach [] X.env := by rfl) : PE X (.Call (.Name "tuple" p) [.Call (.Name "range" p2) [e] [] p3] [] pos) (tD X.K ct W (xUn (opRg true false) me)) := PE.imp (pe_tupRg hc hg hm (prg_1 hg2 hm2 he na) nb) (by
  rintro σ H Q ⟨F, as, env, cs, ok, sl, h⟩
  refine ⟨F, as, env, cs, ok, sl, out_imp (out_bnd h) fun d cs1 F1 H1 as1 g1 ok1 h1 v hv => ?_⟩
  unfold opRg at h1
  split at h1
  · split at h1
    · rename_i b q
      cases hv
      exact ⟨b, rfl, rgOk_ok q, new_tup ok1 (rng_dv 0 b) h1⟩
    · exact False.elim h1
  · exact False.elim h1)
end
end G
/-! G3: what is walked, comprehensions, statements. -/
namespace G
open L2 PySem PySem.Spec PyProof.Rows
/-! ### targets -/
inductive Tg where
  | nm (j : Nat) | tp (js : List Nat)
def setAll : List Nat → List D → En → Option En
  | [], [], env => some env
  | j :: js, d :: ds, env => setAll js ds (env.set j (some d))
  | _, _, _ => none
def tgS : Tg → D → En → Option En
  | .nm j, d, env => some (env.set j (some d))
  | .tp js, .tup ds, env => setAll js ds env
  | _, _, _ => none
def gNs : List Nat → TGs
  | [] => gNil
  | j :: js => gCons (gName j) (gNs js)
def tgR (K : PySem.W.Frag) : Tg → TG
  | .nm j => gName j
  | .tp js => gTup K js.length (gNs js)
def Tg.slots : Tg → List Nat
  | .nm j => [j]
  | .tp js => js
section
variable {K : PySem.W.Frag} {F H : Hp} {as : List Addr} {cs : Cs}
theorem wipe_get {σ : L2.St} : ∀ {vs : List Nat} (i : Nat), (wipe σ vs)[i]? = if i ∈ vs ∧ i < σ.length then some none else σ[i]?
  | [], i => by
    rw [if_neg (by simp)]
    rfl
  | v :: vs, i => by
    show ((wipe σ vs).set v none)[i]? = _
    by_cases e : v = i
    · subst e
      by_cases hl : v < σ.length
      · rw [List.getElem?_set_self (by rw [wipe_length]; exact hl), if_pos ⟨List.mem_cons_self, hl⟩]
      · rw [List.getElem?_eq_none (by rw [List.length_set, wipe_length]; exact Nat.le_of_not_lt hl), if_neg (fun z => hl z.2), List.getElem?_eq_none (Nat.le_of_not_lt hl)]
    · rw [List.getElem?_set_ne e, wipe_get i]
      have : (i ∈ v :: vs ∧ i < σ.length) ↔ (i ∈ vs ∧ i < σ.length) := by
        rw [List.mem_cons]
        constructor
        · rintro ⟨h | h, h2⟩
          · exact absurd h.symm e
          · exact ⟨h, h2⟩
        · rintro ⟨h, h2⟩
          exact ⟨.inr h, h2⟩
      by_cases c : i ∈ vs ∧ i < σ.length
      · rw [if_pos c, if_pos (this.mpr c)]
      · rw [if_neg c, if_neg fun z => c (this.mp z)]
theorem wipe_set {σ : L2.St} {vs : List Nat} {j : Nat} (h : j ∈ vs) (x : Option V) : wipe (σ.set j x) vs = wipe σ vs := by
  apply List.ext_getElem?
  intro i
  rw [wipe_get, wipe_get, List.length_set]
  by_cases c : i ∈ vs ∧ i < σ.length
  · rw [if_pos c, if_pos c]
  · rw [if_neg c, if_neg c]
    by_cases e : j = i
    · subst e
      have hl : ¬ j < σ.length := fun z => c ⟨h, z⟩
      rw [List.getElem?_eq_none (by rw [List.length_set]; exact Nat.le_of_not_lt hl), List.getElem?_eq_none (Nat.le_of_not_lt hl)]
    · rw [List.getElem?_set_ne e]
theorem setAll_ok : ∀ {js : List Nat} {ds : List D} {vs : List V} {σ : L2.St} {env env' : En}, DvL K F as vs ds → Sl K F as σ env → setAll js ds env = some env' →
    ∃ σ', Sl K F as σ' env' ∧ σ'.length = σ.length ∧ (∀ ws, (∀ j ∈ js, j ∈ ws) → wipe σ' ws = wipe σ ws) ∧ ∀ (H : Hp) (Q : L2.St → Hp → Prop), Q σ' H → gNs js vs σ H Q
  | [], [], _, σ, env, env', h, sl, e => by
    cases h
    cases e
    exact ⟨σ, sl, rfl, fun _ _ => rfl, fun _ _ q => ⟨rfl, q⟩⟩
  | j :: js, d :: ds, _, σ, env, env', h, sl, e => by
    cases h with
    | cons h1 h2 =>
      obtain ⟨σ', s1, l1, w1, q1⟩ := setAll_ok h2 (sl.set h1 j) e
      refine ⟨σ', s1, by rw [l1, List.length_set], fun ws hw => ?_, fun H Q q => ⟨_, _, rfl, q1 H Q q⟩⟩
      rw [w1 ws fun k hk => hw k (List.mem_cons_of_mem _ hk), wipe_set (hw j List.mem_cons_self)]
  | [], _ :: _, _, _, _, _, _, _, e => by cases e
  | _ :: _, [], _, _, _, _, _, _, e => by cases e
theorem setAll_len : ∀ {js : List Nat} {ds : List D} {env env' : En}, setAll js ds env = some env' → js.length = ds.length
  | [], [], _, _, _ => rfl
  | _ :: js, _ :: ds, _, _, e => congrArg (· + 1) (setAll_len (js := js) (ds := ds) e)
  | [], _ :: _, _, _, e => by cases e
  | _ :: _, [], _, _, e => by cases e
theorem tg_ok {t : Tg} {d : D} {v : V} {σ : L2.St} {env env' : En} (ok : Ok K F H as cs) (h : Dv K F as v d) (sl : Sl K F as σ env) (e : tgS t d env = some env') :
    ∃ σ', Sl K F as σ' env' ∧ σ'.length = σ.length ∧ (∀ ws, (∀ j ∈ t.slots, j ∈ ws) → wipe σ' ws = wipe σ ws) ∧ ∀ (Q : L2.St → Hp → Prop), Q σ' H → tgR K t v σ H Q := by
  cases t with
  | nm j =>
    cases e
    exact ⟨_, sl.set h j, List.length_set, fun ws hw => wipe_set (hw j List.mem_cons_self) _, fun Q q => q⟩
  | tp js =>
    cases d with
    | tup ds =>
      cases h with
      | tup t l =>
        obtain ⟨σ', s1, l1, w1, q1⟩ := setAll_ok l sl e
        exact ⟨σ', s1, l1, w1, fun Q q => ⟨_, _, rfl, SqT.of (ok.fh _ _ t), by rw [l.length, setAll_len e], q1 H Q q⟩⟩
    | _ => cases e
end
/-! ### what is walked -/
structure It0 where
  items : List D
  live : Cs → Bool
mutual
def eqD : D → D → Bool
  | .non, .non => true
  | .bl a, .bl b => a == b
  | .int i, .int j => i == j
  | .str x, .str y => x == y
  | .tup xs, .tup ys => eqDL xs ys
  | .lst xs, .lst ys => eqDL xs ys
  | .ref i, .ref j => i == j
  | .dic, .dic => true
  | .scr a, .scr b => a == b
  | _, _ => false
def eqDL : List D → List D → Bool
  | [], [] => true
  | x :: xs, y :: ys => eqD x y && eqDL xs ys
  | _, _ => false
end
mutual
theorem eqD_eq : ∀ {d e : D}, eqD d e = true → d = e
  | .non, .non, _ => rfl
  | .bl a, .bl b, h => congrArg D.bl (eq_of_beq (show (a == b) = true from h))
  | .int a, .int b, h => congrArg D.int (eq_of_beq (show (a == b) = true from h))
  | .str a, .str b, h => congrArg D.str (eq_of_beq (show (a == b) = true from h))
  | .tup a, .tup b, h => congrArg D.tup (eqDL_eq (show eqDL a b = true from h))
  | .lst a, .lst b, h => congrArg D.lst (eqDL_eq (show eqDL a b = true from h))
  | .ref a, .ref b, h => congrArg D.ref (eq_of_beq (show (a == b) = true from h))
  | .dic, .dic, _ => rfl
  | .scr a, .scr b, h => congrArg D.scr (eq_of_beq (show (a == b) = true from h))
  | .non, .bl _, h | .non, .int _, h | .non, .str _, h | .non, .tup _, h | .non, .lst _, h | .non, .ref _, h | .non, .dic, h | .non, .scr _, h => by cases h
  | .bl _, .non, h | .bl _, .int _, h | .bl _, .str _, h | .bl _, .tup _, h | .bl _, .lst _, h | .bl _, .ref _, h | .bl _, .dic, h | .bl _, .scr _, h => by cases h
  | .int _, .non, h | .int _, .bl _, h | .int _, .str _, h | .int _, .tup _, h | .int _, .lst _, h | .int _, .ref _, h | .int _, .dic, h | .int _, .scr _, h => by cases h
  | .str _, .non, h | .str _, .bl _, h | .str _, .int _, h | .str _, .tup _, h | .str _, .lst _, h | .str _, .ref _, h | .str _, .dic, h | .str _, .scr _, h => by cases h
  | .tup _, .non, h | .tup _, .bl _, h | .tup _, .int _, h | .tup _, .str _, h | .tup _, .lst _, h | .tup _, .ref _, h | .tup _, .dic, h | .tup _, .scr _, h => by cases h
  | .lst _, .non, h | .lst _, .bl _, h | .lst _, .int _, h | .lst _, .str _, h | .lst _, .tup _, h | .lst _, .ref _, h | .lst _, .dic, h | .lst _, .scr _, h => by cases h
  | .ref _, .non, h | .ref _, .bl _, h | .ref _, .int _, h | .ref _, .str _, h | .ref _, .tup _, h | .ref _, .lst _, h | .ref _, .dic, h | .ref _, .scr _, h => by cases h
  | .dic, .non, h | .dic, .bl _, h | .dic, .int _, h | .dic, .str _, h | .dic, .tup _, h | .dic, .lst _, h | .dic, .ref _, h | .dic, .scr _, h => by cases h
  | .scr _, .non, h | .scr _, .bl _, h | .scr _, .int _, h | .scr _, .str _, h | .scr _, .tup _, h | .scr _, .lst _, h | .scr _, .ref _, h | .scr _, .dic, h => by cases h
theorem eqDL_eq : ∀ {d e : List D}, eqDL d e = true → d = e
  | [], [], _ => rfl
  | x :: xs, y :: ys, h => by
    obtain ⟨h1, h2⟩ := Bool.and_eq_true_iff.mp (show (eqD x y && eqDL xs ys) = true from h)
    rw [eqD_eq h1, eqDL_eq h2]
  | [], _ :: _, h => by cases h
  | _ :: _, [], h => by cases h
end
/-- the list stands as it stood -/
def liveOf (xs : List D) : D → Cs → Bool
  | .ref i, cs' => (match cs'[i]? with
    | some ys => eqDL ys xs
    | none => false)
  | _, _ => true
theorem liveOf_ok {cs cs' : Cs} {d : D} {xs : List D} (e : seqOf cs d = some xs) (h : liveOf xs d cs' = true) : seqOf cs' d = some xs := by
  cases d with
  | ref i =>
    have h2 : (match cs'[i]? with
      | some ys => eqDL ys xs
      | none => false) = true := h
    cases q : cs'[i]? with
    | none =>
      rw [q] at h2
      cases h2
    | some ys =>
      rw [q] at h2
      show cs'[i]? = some xs
      rw [q, eqDL_eq h2]
  | _ => exact e
def ItOk (K : PySem.W.Frag) (F H : Hp) (as : List Addr) (J : It) (xs : List D) (live : Cs → Bool) : Prop :=
  ∀ F2 H2 as2 cs2, Gro F H as F2 H2 as2 → Ok K F2 H2 as2 cs2 → live cs2 = true →
    (∀ i d, xs[i]? = some d → J.go i H2 ∧ ∀ x H3, J.yld i H2 x H3 → ∃ F3, Gro F2 H2 as2 F3 H3 as2 ∧ Ok K F3 H3 as2 cs2 ∧ Dv K F3 as2 x d) ∧ J.stop xs.length H2
def tI (K : PySem.W.Frag) (ct : Ct) (W : WX) (m : En → M It0) : TI := fun σ H R => ∃ F as env cs, Ok K F H as cs ∧ Sl K F as σ env ∧ out K ct W σ.length F H as (m env cs) fun it _ F' H' as' => ∀ J, ItOk K F' H' as' J it.items it.live → R J H'
theorem PI.imp {X : Cx} {tg e : Expr} {t t' : TI} (h : PI X tg e t) (k : ∀ σ H R, t' σ H R → t σ H R) : PI X tg e t' := ⟨fun pins s σ H R I w => h.run pins s σ H R I (k σ H R w)⟩
def itSeq (m : En → M D) : En → M It0 := fun env => M.bnd (m env) fun d cs => match seqOf cs d with
  | some xs => .ok ⟨xs, liveOf xs d⟩ cs
  | none => .no
def itTup (m : En → M D) : En → M It0 := fun env => M.bnd (m env) fun d => match d with
  | .tup xs => M.ret ⟨xs, fun _ => true⟩
  | _ => M.no
def small62 (i : Int) : Bool := decide (-(2 ^ 62) ≤ i ∧ i < 2 ^ 62)
def rngC (a c : Int) (n : Nat) : List D := (List.range n).map fun i => .int (a + (i : Nat) * c)
def opR1 : D → M It0
  | .int j => if small62 j = true then M.ret ⟨rngD 0 j.toNat, fun _ => true⟩ else M.no
  | _ => M.no
def opR2 : D → D → M It0
  | .int i, .int j => if small62 i && small62 j then M.ret ⟨rngD i (j - i).toNat, fun _ => true⟩ else M.no
  | _, _ => M.no
def opR3 : D → D → D → M It0
  | .int i, .int j, .int c => if decide (c ≠ 0 ∧ c.natAbs < 1073741824 ∧ 0 ≤ Builtin.Range.rangeSize i j c) && Builtin.Range.small i j c then M.ret ⟨rngC i c (Builtin.Range.rangeSize i j c).toNat, fun _ => true⟩ else M.no
  | _, _, _ => M.no
def itR1 (a : En → M D) : En → M It0 := fun env => M.bnd (a env) opR1
def itR2 (a b : En → M D) : En → M It0 := fun env => M.bnd (a env) fun x => M.bnd (b env) fun y => opR2 x y
def itR3 (a b c : En → M D) : En → M It0 := fun env => M.bnd (a env) fun x => M.bnd (b env) fun y => M.bnd (c env) fun z => opR3 x y z
def itRev (m : En → M D) : En → M It0 := fun env => M.bnd (m env) fun d cs => match seqOf cs d with
  | some xs => .ok ⟨xs.reverse, liveOf xs d⟩ cs
  | none => .no
def itZip (a b : En → M D) : En → M It0 := fun env => M.bnd (a env) fun d => M.bnd (b env) fun e cs => match seqOf cs d, seqOf cs e with
  | some xs, some ys => .ok ⟨(xs.zip ys).map fun p => .tup [p.1, p.2], fun cs' => liveOf xs d cs' && liveOf ys e cs'⟩ cs
  | _, _ => .no
def itStr (m : En → M D) : En → M It0 := fun env => M.bnd (m env) fun d => match d with
  | .str z => M.ret ⟨z.cps.toList.map fun c => .str ⟨#[c]⟩, fun _ => true⟩
  | _ => M.no
section
variable {X : Cx} {ct : Ct} {W : WX} {tg e e2 e3 : Expr} {me m2 m3 : En → M D} {p pos : Pos}
theorem itOk_const {K : PySem.W.Frag} {F H : Hp} {as : List Addr} {J : It} {xs : List D} {live : Cs → Bool} (g : ∀ i d, xs[i]? = some d → ∀ H, J.go i H) (y : ∀ i d, xs[i]? = some d → ∀ H x H3, J.yld i H x H3 → H3 = H ∧ ∀ F as, Dv K F as x d) (s : ∀ H, J.stop xs.length H) : ItOk K F H as J xs live := fun F2 H2 as2 cs2 _ ok2 _ =>
  ⟨fun i d hd => ⟨g i d hd H2, fun x H3 hy => by
    obtain ⟨e, dv⟩ := y i d hd H2 x H3 hy
    subst e
    exact ⟨F2, Gro.refl _ _ _, ok2, dv F2 as2⟩⟩, s H2⟩
theorem rngD_get {a : Int} {n i : Nat} {d : D} (h : (rngD a n)[i]? = some d) : i < n ∧ d = .int (a + (i : Nat)) := by
  unfold rngD at h
  rw [List.getElem?_map] at h
  by_cases hi : i < n
  · rw [List.getElem?_range hi] at h
    exact ⟨hi, (Option.some.inj h).symm⟩
  · rw [List.getElem?_eq_none (by rw [List.length_range]; omega)] at h
    cases h
theorem rngC_get {a c : Int} {n i : Nat} {d : D} (h : (rngC a c n)[i]? = some d) : i < n ∧ d = .int (a + (i : Nat) * c) := by
  unfold rngC at h
  rw [List.getElem?_map] at h
  by_cases hi : i < n
  · rw [List.getElem?_range hi] at h
    exact ⟨hi, (Option.some.inj h).symm⟩
  · rw [List.getElem?_eq_none (by rw [List.length_range]; omega)] at h
    cases h
theorem itOk_rng {K : PySem.W.Frag} {F H : Hp} {as : List Addr} {a : Int} {n : Nat} {live : Cs → Bool} : ItOk K F H as (Itr a n) (rngD a n) live := itOk_const (fun i d h _ => (rngD_get h).1) (fun i d h H x H3 y => by
  obtain ⟨e, ex⟩ := y
  obtain ⟨_, ed⟩ := rngD_get h
  subst ed ex
  exact ⟨e, fun _ _ => .int _⟩) fun _ => by
    show n ≤ (rngD a n).length
    unfold rngD
    rw [List.length_map, List.length_range]
    exact Nat.le_refl n
theorem itOk_rngC {K : PySem.W.Frag} {F H : Hp} {as : List Addr} {a c : Int} {n : Nat} {live : Cs → Bool} : ItOk K F H as (Itc a c n) (rngC a c n) live := itOk_const (fun i d h _ => (rngC_get h).1) (fun i d h H x H3 y => by
  obtain ⟨e, ex⟩ := y
  obtain ⟨_, ed⟩ := rngC_get h
  subst ed ex
  exact ⟨e, fun _ _ => .int _⟩) fun _ => by
    show n ≤ (rngC a c n).length
    unfold rngC
    rw [List.length_map, List.length_range]
    exact Nat.le_refl n
theorem gi_r1 (hg : Gl X "range") (hm : X.mg "range" = none) (ha : PE X e (tD X.K ct W me)) (hs : starEach [e] X.env = [(false, eval e X.env)] := by rfl) (hs1 : starEach [e] X.env = (false, eval e X.env) :: starEach [] X.env := by rfl) : PI X tg (.Call (.Name "range" p) [e] [] pos) (tI X.K ct W (itR1 me)) := PI.imp (pi_range1 hg hm (pa_cons ha pa_nil hs1) hs) (by
  rintro σ H R ⟨F, as, env, cs, ok, sl, h⟩
  refine ⟨F, as, env, cs, ok, sl, out_imp (out_bnd h) fun d cs1 F1 H1 as1 g ok1 h1 v hv => ?_⟩
  unfold opR1 at h1
  split at h1
  · split at h1
    · rename_i j q
      cases hv
      obtain ⟨q1, q2⟩ := of_decide_eq_true q
      exact ⟨j, rfl, q1, q2, out_ok ok1 h1 _ itOk_rng⟩
    · exact False.elim h1
  · exact False.elim h1)
theorem gi_r2 (hg : Gl X "range") (hm : X.mg "range" = none) (ha : PE X e (tD X.K ct W me)) (hb : PE X e2 (tD X.K ct W m2)) (hs : starEach [e, e2] X.env = [(false, eval e X.env), (false, eval e2 X.env)] := by rfl) (hs2 : starEach [e2] X.env = [(false, eval e2 X.env)] := by rfl)
    (hs1 : starEach [e, e2] X.env = (false, eval e X.env) :: starEach [e2] X.env := by rfl) (hs3 : starEach [e2] X.env = (false, eval e2 X.env) :: starEach [] X.env := by rfl) : PI X tg (.Call (.Name "range" p) [e, e2] [] pos) (tI X.K ct W (itR2 me m2)) := PI.imp (pi_range2 hg hm (pa_cons ha (pa_cons hb pa_nil hs3) hs1) hs hs2) (by
  rintro σ H R ⟨F, as, env, cs, ok, sl, h⟩
  refine ⟨F, as, env, cs, ok, sl, out_imp (out_bnd h) fun d cs1 F1 H1 as1 g ok1 h1 v hv => ?_⟩
  refine ⟨F1, as1, env, cs1, ok1, sl.gro g, out_imp (out_bnd h1) fun d2 cs2 F2 H2 as2 g2 ok2 h2 u hu => ?_⟩
  unfold opR2 at h2
  split at h2
  · split at h2
    · rename_i i j q
      cases hv
      cases hu
      obtain ⟨q1, q2⟩ := Bool.and_eq_true_iff.mp q
      obtain ⟨q3, q4⟩ := of_decide_eq_true q1
      obtain ⟨q5, q6⟩ := of_decide_eq_true q2
      exact ⟨i, j, rfl, ⟨q3, q4, q5, q6⟩, out_ok ok2 h2 _ itOk_rng⟩
    · exact False.elim h2
  · exact False.elim h2)
theorem gi_r3 (hg : Gl X "range") (hm : X.mg "range" = none) (ha : PE X e (tD X.K ct W me)) (hb : PE X e2 (tD X.K ct W m2)) (hc : PE X e3 (tD X.K ct W m3)) (hs : starEach [e, e2, e3] X.env = (false, eval e X.env) :: starEach [e2, e3] X.env := by rfl) (hpl : (backTo pos (starEach [e2, e3] X.env)).any (·.1) = false := by rfl)
    (hs2 : starEach [e2, e3] X.env = (false, eval e2 X.env) :: starEach [e3] X.env := by rfl) (hs3 : starEach [e3] X.env = (false, eval e3 X.env) :: starEach [] X.env := by rfl) : PI X tg (.Call (.Name "range" p) [e, e2, e3] [] pos) (tI X.K ct W (itR3 me m2 m3)) := PI.imp (pi_range3 hg hm (pa_cons ha (pa_cons hb (pa_cons hc pa_nil hs3) hs2) hs) hs hpl) (by
  rintro σ H R ⟨F, as, env, cs, ok, sl, h⟩
  refine ⟨F, as, env, cs, ok, sl, out_imp (out_bnd h) fun d cs1 F1 H1 as1 g ok1 h1 v hv => ?_⟩
  refine ⟨F1, as1, env, cs1, ok1, sl.gro g, out_imp (out_bnd h1) fun d2 cs2 F2 H2 as2 g2 ok2 h2 u hu => ?_⟩
  refine ⟨F2, as2, env, cs2, ok2, (sl.gro g).gro g2, out_imp (out_bnd h2) fun d3 cs3 F3 H3 as3 g3 ok3 h3 w hw => ?_⟩
  unfold opR3 at h3
  split at h3
  · split at h3
    · rename_i i j c q
      cases hv
      cases hu
      cases hw
      obtain ⟨q1, q2⟩ := Bool.and_eq_true_iff.mp q
      obtain ⟨q3, q4, q5⟩ := of_decide_eq_true q1
      exact ⟨i, j, c, _, rfl, ⟨q3, q4, q2, by omega⟩, out_ok ok3 h3 _ itOk_rngC⟩
    · exact False.elim h3
  · exact False.elim h3)
theorem gi_seq (ha : PE X e (tD X.K ct W me)) : PI X tg e (tI X.K ct W (itSeq me)) := PI.imp (pi_list ha) (by
  rintro σ H R ⟨F, as, env, cs, ok, sl, h⟩
  refine ⟨F, as, env, cs, ok, sl, out_imp (out_bnd h) fun d cs1 F1 H1 as1 g ok1 h1 v hv => ?_⟩
  try dsimp only at h1
  split at h1
  · rename_i xs q
    obtain ⟨a, ys, rfl, h2, l⟩ := seq_at ok1 hv q
    refine ⟨a, rfl, ⟨ys, h2⟩, out_ok ok1 h1 _ fun F2 H2 as2 cs2 g2 ok2 lv => ?_⟩
    obtain ⟨b, zs, eb, h3, l3⟩ := seq_at ok2 (hv.gro g2) (liveOf_ok q lv)
    have ea : a = b := V.ref.inj eb
    subst ea
    refine ⟨fun i d hd => ?_, ⟨zs, h3, by rw [l3.length]; exact Nat.le_refl _⟩⟩
    obtain ⟨z, hz, dz⟩ := l3.get hd
    refine ⟨⟨zs, z, h3, hz⟩, fun x H3 hy => ?_⟩
    obtain ⟨e3, hy⟩ := hy
    subst e3
    have ex : z = x := Option.some.inj (hz.symm.trans (hy zs h3))
    subst ex
    exact ⟨F2, Gro.refl _ _ _, ok2, dz⟩
  · exact False.elim h1)
theorem gi_tup (ha : PE X e (tD X.K ct W me)) : PI X tg e (tI X.K ct W (itTup me)) := PI.imp (pi_tup ha) (by
  rintro σ H R ⟨F, as, env, cs, ok, sl, h⟩
  refine ⟨F, as, env, cs, ok, sl, out_imp (out_bnd h) fun d cs1 F1 H1 as1 g ok1 h1 v hv => ?_⟩
  split at h1
  · rename_i xs
    cases hv with
    | tup t l =>
      refine ⟨_, rfl, ⟨_, SqT.of (ok1.fh _ _ t)⟩, out_ok ok1 h1 _ fun F2 H2 as2 cs2 g2 ok2 lv => ?_⟩
      have h3 := SqT.of (K := X.K) (ok2.fh _ _ (g2.ff _ _ t))
      refine ⟨fun i d hd => ?_, ⟨_, h3, by rw [l.length]; exact Nat.le_refl _⟩⟩
      obtain ⟨z, hz, dz⟩ := (l.gro g2).get hd
      refine ⟨⟨_, z, h3, hz⟩, fun x H3 hy => ?_⟩
      obtain ⟨e3, hy⟩ := hy
      subst e3
      have ex : z = x := Option.some.inj (hz.symm.trans (hy _ h3))
      subst ex
      exact ⟨F2, Gro.refl _ _ _, ok2, dz⟩
  · exact False.elim h1)
theorem rev_get {α : Type} {xs : List α} {i : Nat} {d : α} (h : xs.reverse[i]? = some d) : i < xs.length ∧ xs[xs.length - 1 - i]? = some d := by
  have hi : i < xs.length := by
    have := (List.getElem?_eq_some_iff.mp h).1
    rwa [List.length_reverse] at this
  rw [List.getElem?_reverse hi] at h
  exact ⟨hi, h⟩
theorem gi_rev (hg : Gl X "reversed") (hm : X.mg "reversed" = none) (ha : PE X e (tD X.K ct W me)) (hs : starEach [e] X.env = [(false, eval e X.env)] := by rfl) (hs1 : starEach [e] X.env = (false, eval e X.env) :: starEach [] X.env := by rfl) : PI X tg (.Call (.Name "reversed" p) [e] [] pos) (tI X.K ct W (itRev me)) := PI.imp (pi_reversed hg hm (pa_cons ha pa_nil hs1) hs) (by
  rintro σ H R ⟨F, as, env, cs, ok, sl, h⟩
  refine ⟨F, as, env, cs, ok, sl, out_imp (out_bnd h) fun d cs1 F1 H1 as1 g ok1 h1 v hv => ?_⟩
  try dsimp only at h1
  split at h1
  · rename_i xs q
    obtain ⟨a, ys, rfl, h2, l⟩ := seq_at ok1 hv q
    refine ⟨a, ys, rfl, h2, out_ok ok1 h1 _ fun F2 H2 as2 cs2 g2 ok2 lv => ?_⟩
    obtain ⟨b, zs, eb, h3, l3⟩ := seq_at ok2 (hv.gro g2) (liveOf_ok q lv)
    have ea : a = b := V.ref.inj eb
    subst ea
    have hl := l.length
    refine ⟨fun i d hd => ?_, ?_⟩
    · obtain ⟨hi, hd⟩ := rev_get hd
      obtain ⟨z, hz, dz⟩ := l3.get hd
      have hz2 : zs[ys.length - 1 - i]? = some z := by rw [hl]; exact hz
      refine ⟨⟨by omega, zs, z, h3, hz2⟩, fun x H3 hy => ?_⟩
      obtain ⟨e3, hy⟩ := hy
      subst e3
      have ex : z = x := Option.some.inj (hz2.symm.trans (hy zs h3))
      subst ex
      exact ⟨F2, Gro.refl _ _ _, ok2, dz⟩
    · show ys.length ≤ xs.reverse.length
      rw [List.length_reverse, hl]
      exact Nat.le_refl _
  · exact False.elim h1)
theorem zip_get {α β : Type} : ∀ {xs : List α} {ys : List β} {i : Nat} {q : α × β}, (xs.zip ys)[i]? = some q → xs[i]? = some q.1 ∧ ys[i]? = some q.2
  | [], _, _, _, h => by simp at h
  | _ :: _, [], _, _, h => by simp at h
  | x :: xs, y :: ys, 0, q, h => by
    have e : (x, y) = q := Option.some.inj h
    subst e
    exact ⟨rfl, rfl⟩
  | x :: xs, y :: ys, i + 1, q, h => zip_get (xs := xs) (ys := ys) (i := i) (q := q) h
theorem gi_zip {elts : List Expr} {kk : Nat} {tpos : Pos} (hg : Gl X "zip") (hm : X.mg "zip" = none) (ha : PE X e (tD X.K ct W me)) (hb : PE X e2 (tD X.K ct W m2)) (hs : starEach [e, e2] X.env = (false, eval e X.env) :: starEach [e2] X.env := by rfl) (hpl : (backTo pos (starEach [e2] X.env)).any (·.1) = false := by rfl)
    (hs3 : starEach [e2] X.env = (false, eval e2 X.env) :: starEach [] X.env := by rfl) : PI X (.Tuple elts kk tpos) (.Call (.Name "zip" p) [e, e2] [] pos) (tI X.K ct W (itZip me m2)) := PI.imp (pi_zip hg hm (pa_cons ha (pa_cons hb pa_nil hs3) hs) hs hpl) (by
  rintro σ H R ⟨F, as, env, cs, ok, sl, h⟩
  refine ⟨F, as, env, cs, ok, sl, out_imp (out_bnd h) fun d cs1 F1 H1 as1 g ok1 h1 v hv => ?_⟩
  refine ⟨F1, as1, env, cs1, ok1, sl.gro g, out_imp (out_bnd h1) fun f cs2 F2 H2 as2 g2 ok2 h2 u hu => ?_⟩
  try dsimp only at h2
  split at h2
  · rename_i xs ys q1 q2
    obtain ⟨a, vs, rfl, h3, l3⟩ := seq_at ok2 (hv.gro g2) q1
    obtain ⟨b, us, rfl, h4, l4⟩ := seq_at ok2 hu q2
    refine ⟨a, b, vs, us, rfl, h3, h4, out_ok ok2 h2 _ fun F3 H3 as3 cs3 g3 ok3 lv => ?_⟩
    obtain ⟨lv1, lv2⟩ := Bool.and_eq_true_iff.mp lv
    obtain ⟨a', vs', ea, h5, l5⟩ := seq_at ok3 ((hv.gro g2).gro g3) (liveOf_ok q1 lv1)
    obtain ⟨b', us', eb, h6, l6⟩ := seq_at ok3 (hu.gro g3) (liveOf_ok q2 lv2)
    have ea : a = a' := V.ref.inj ea
    have eb : b = b' := V.ref.inj eb
    subst ea eb
    refine ⟨fun i d hd => ?_, ⟨vs', us', h5, h6, ?_⟩⟩
    · rw [List.getElem?_map] at hd
      cases q : (xs.zip ys)[i]? with
      | none =>
        rw [q] at hd
        cases hd
      | some pq =>
        rw [q] at hd
        have ed : D.tup [pq.1, pq.2] = d := Option.some.inj hd
        subst ed
        obtain ⟨z1, z2⟩ := zip_get q
        obtain ⟨w1, hw1, dw1⟩ := l5.get z1
        obtain ⟨w2, hw2, dw2⟩ := l6.get z2
        refine ⟨⟨vs', us', w1, w2, h5, h6, hw1, hw2⟩, fun x H4 hy => ?_⟩
        obtain ⟨T, x1, x2, rfl, hT, rfl, y1, y2⟩ := hy
        have e1 : w1 = x1 := Option.some.inj (hw1.symm.trans (y1 _ h5))
        have e2 : w2 = x2 := Option.some.inj (hw2.symm.trans (y2 _ h6))
        subst e1 e2
        exact ⟨_, gro_new _ ok3 hT, ok_new _ ok3 hT, .tup upd_same (.cons (dw1.mono (Ext.new (ok3.fnone hT)) List.prefix_rfl) (.cons (dw2.mono (Ext.new (ok3.fnone hT)) List.prefix_rfl) .nil))⟩
    · rw [List.length_map, List.length_zip, l5.length, l6.length]
      omega
  · exact False.elim h2)
theorem gi_str (ha : PE X e (tD X.K ct W me)) : PI X tg e (tI X.K ct W (itStr me)) := PI.imp (pi_str ha) (by
  rintro σ H R ⟨F, as, env, cs, ok, sl, h⟩
  refine ⟨F, as, env, cs, ok, sl, out_imp (out_bnd h) fun d cs1 F1 H1 as1 g ok1 h1 v hv => ?_⟩
  split at h1
  · rename_i z
    cases hv
    refine ⟨z, rfl, out_ok ok1 h1 _ (itOk_const (fun i d h _ => ?_) (fun i d h H x H3 y => ?_) fun _ => ?_)⟩
    · rw [List.getElem?_map] at h
      show i < z.cps.size
      by_cases hi : i < z.cps.size
      · exact hi
      · rw [List.getElem?_eq_none (by simpa using Nat.le_of_not_lt hi)] at h
        cases h
    · obtain ⟨e, c, hc, ex⟩ := y
      subst ex
      refine ⟨e, fun _ _ => ?_⟩
      rw [List.getElem?_map, Array.getElem?_toList, hc] at h
      have ed : D.str ⟨#[c]⟩ = d := Option.some.inj h
      subst ed
      exact .str _
    · show z.cps.size ≤ _
      simp
  · exact False.elim h1)
end
/-! ### comprehensions -/
def guardM (live : Cs → Bool) {α : Type} (m : M α) : M α := fun cs => if live cs = true then m cs else .no
def lcGo (live : Cs → Bool) (t : Tg) (tt : En → M Bool) (te : En → M D) (env : En) : List D → M (List D)
  | [] => guardM live (M.ret [])
  | x :: r => guardM live (match tgS t x env with
    | some env1 => M.bnd (tt env1) fun b => if b = true then M.bnd (te env1) fun y => M.bnd (lcGo live t tt te env r) fun ys => M.ret (y :: ys) else lcGo live t tt te env r
    | none => M.no)
def bYes : En → M Bool := fun _ => M.ret true
def xLc (c : Bool) (it : En → M It0) (own : List Nat) (t : Tg) (tt : En → M Bool) (te : En → M D) : En → M D := fun env => M.bnd (it env) fun i =>
  if szOk i.items.length = true then M.bnd (lcGo i.live t tt te (wip env own) i.items) fun ys => mkL c ys else M.no
theorem out_guard {α : Type} {K : PySem.W.Frag} {ct : Ct} {W : WX} {n : Nat} {F H : Hp} {as : List Addr} {live : Cs → Bool} {m : M α} {cs : Cs} {P : α → Cs → Hp → Hp → List Addr → Prop} (h : out K ct W n F H as (guardM live m cs) P) : live cs = true ∧ out K ct W n F H as (m cs) P := by
  unfold guardM at h
  by_cases q : live cs = true
  · rw [if_pos q] at h
    exact ⟨q, h⟩
  · rw [if_neg q] at h
    exact False.elim h
def W0 : WX := fun _ _ _ _ => False
/-- no exception is wished for where none comes -/
def calmM {α : Type} (r : Rs α) : Prop := ∀ x cs, r ≠ .ex x cs
theorem getElem_drop {α : Type} {xs r : List α} {i : Nat} {x : α} (h : xs.drop i = x :: r) : xs[i]? = some x ∧ xs.drop (i + 1) = r ∧ i < xs.length := by
  have hi : i < xs.length := by
    by_cases q : i < xs.length
    · exact q
    · rw [List.drop_eq_nil_of_le (Nat.le_of_not_lt q)] at h
      cases h
  rw [List.drop_eq_getElem_cons hi] at h
  obtain ⟨h1, h2⟩ := List.cons.inj h
  exact ⟨by rw [List.getElem?_eq_getElem hi, h1], h2, hi⟩
theorem drop_nil {α : Type} {xs : List α} {i : Nat} (h : xs.drop i = []) (hi : i ≤ xs.length) : i = xs.length := by
  have := congrArg List.length h
  rw [List.length_drop] at this
  simp at this
  omega
/-- exceptions turned to nothing -/
def noX {α : Type} (m : M α) : M α := fun cs => match m cs with
  | .ok a cs' => .ok a cs'
  | _ => .no
theorem out_noX {α : Type} {K : PySem.W.Frag} {ct : Ct} {W W' : WX} {n n' : Nat} {F H : Hp} {as : List Addr} {m : M α} {cs : Cs} {P : α → Cs → Hp → Hp → List Addr → Prop} (h : out K ct W n F H as (noX m cs) P) : out K ct W' n' F H as (m cs) P := by
  unfold noX at h
  cases q : m cs with
  | ok a cs' =>
    rw [q] at h
    exact h
  | ex x cs' =>
    rw [q] at h
    exact False.elim h
  | no =>
    rw [q] at h
    exact False.elim h
/-- one address left out -/
def rm (H : Hp) (A : Addr) : Hp := fun b => if b = A then none else H b
theorem rm_same {H : Hp} {A : Addr} : rm H A A = none := if_pos rfl
theorem upd_rm {H : Hp} {A : Addr} {o : HO} : upd (rm H A) A o = upd H A o := by
  funext b
  by_cases e : b = A
  · rw [e, upd_same, upd_same]
  · rw [upd_ne e, upd_ne e]
    exact if_neg e
theorem wipe_idem {σ : L2.St} {vs : List Nat} : wipe (wipe σ vs) vs = wipe σ vs := by
  apply List.ext_getElem?
  intro i
  rw [wipe_get, wipe_length]
  by_cases c : i ∈ vs ∧ i < σ.length
  · rw [if_pos c, wipe_get, if_pos c]
  · rw [if_neg c]
theorem rm_ne {H : Hp} {A b : Addr} (h : b ≠ A) : rm H A b = H b := if_neg h
section
variable {K : PySem.W.Frag} {ct : Ct} {F H F3 H3 : Hp} {as as3 : List Addr} {cs cs3 : Cs} {A : Addr} {o : HO}
theorem hide_gro (ok : Ok K F H as cs) (hA : H A = none) (g : Gro F (upd H A o) as F3 H3 as3) (ok3 : Ok K F3 H3 as3 cs3) : H3 = upd (rm H3 A) A o ∧ Gro F H as F3 (rm H3 A) as3 ∧ Ok K F3 (rm H3 A) as3 cs3 := by
  have nA : A ∉ as := ok.out hA
  have h3 : H3 A = some o := g.hh A o upd_same nA
  have nA3 : A ∉ as3 := fun m => (g.an A m).elim nA fun z => by
    rw [upd_same] at z
    cases z
  have fA : F3 A = none := by
    rw [g.fn A (by rw [upd_same]; exact fun z => nomatch z)]
    exact ok.fnone hA
  refine ⟨?_, ⟨g.ff, fun p hp => ?_, fun p u hp hn => ?_, fun p hp => ?_, g.ap, fun p m => ?_⟩, ⟨fun p u hp => ?_, ok3.nd, ok3.len, fun i a xs ha hx => ?_⟩⟩
  · funext b
    by_cases e : b = A
    · rw [e, upd_same, h3]
    · rw [upd_ne e, rm_ne e]
  · have ne : p ≠ A := fun e => hp (by rw [e]; exact hA)
    exact g.fn p (by rw [upd_ne ne]; exact hp)
  · have ne : p ≠ A := ne_of_none hp hA
    rw [rm_ne ne]
    exact g.hh p u (by rw [upd_ne ne]; exact hp) hn
  · have ne : p ≠ A := fun e => hp (by rw [e]; exact hA)
    rw [rm_ne ne]
    exact g.hl p (by rw [upd_ne ne]; exact hp)
  · rcases g.an p m with z | z
    · exact .inl z
    · by_cases e : p = A
      · rw [e, upd_same] at z
        cases z
      · rw [upd_ne e] at z
        exact .inr z
  · have ne : p ≠ A := ne_of_none hp fA
    rw [rm_ne ne]
    exact ok3.fh p u hp
  · obtain ⟨h1, ys, h2, h4⟩ := ok3.cell i a xs ha hx
    have ne : a ≠ A := fun e => nA3 (by rw [← e]; exact List.mem_of_getElem? ha)
    exact ⟨h1, ys, by rw [rm_ne ne]; exact h2, h4⟩
theorem xrel_rm {x : Exn} {c : Value} {d : Option Addr} {zs : List V} (h : XRel ct H x c d) (hA : H A = some (.lst zs)) : XRel ct (rm H A) x c d := by
  cases x with
  | net o =>
    obtain ⟨e, dd, fs, h1, h2, h3⟩ := h
    refine ⟨e, dd, fs, h1, ?_, h3⟩
    rw [rm_ne fun q => ?_]
    · exact h2
    · rw [q, hA] at h2
      cases h2
  | _ => exact h
theorem out_hide {α : Type} {n : Nat} {r : Rs α} {P : α → Cs → Hp → Hp → List Addr → Prop} {zs : List V} (ok : Ok K F H as cs) (hA : H A = none) (h : out K ct W0 n F H as r P) :
    out K ct W0 n F (upd H A (.lst zs)) as r fun a cs F3 H3 as3 => H3 = upd (rm H3 A) A (.lst zs) ∧ Gro F H as F3 (rm H3 A) as3 ∧ Ok K F3 (rm H3 A) as3 cs ∧ P a cs F3 (rm H3 A) as3 := by
  cases r with
  | ok a cs' =>
    intro F3 H3 as3 g ok3
    obtain ⟨e, g3, o3⟩ := hide_gro ok hA g ok3
    exact ⟨e, g3, o3, h _ _ _ g3 o3⟩
  | ex x cs' =>
    intro c d σ' F3 H3 as3 l g ok3 hx
    obtain ⟨e, g3, o3⟩ := hide_gro ok hA g ok3
    exact h c d σ' F3 (rm H3 A) as3 l g3 o3 (xrel_rm hx (by rw [e, upd_same]))
  | no => exact h
end
def xLcN (c : Bool) (it : En → M It0) (own : List Nat) (t : Tg) (tt : En → M Bool) (te : En → M D) : En → M D := fun env => M.bnd (it env) fun i =>
  if szOk i.items.length = true then M.bnd (noX (lcGo i.live t tt te (wip env own) i.items)) fun ys => mkL c ys else M.no
section
variable {K : PySem.W.Frag} {ct : Ct} {W : WX}
theorem lc_of {c : Bool} {it : En → M It0} {own : List Nat} {t : Tg} {tt : En → M Bool} {te : En → M D} (ht : ∀ j ∈ t.slots, j ∈ own) {σ : L2.St} {H : Hp} {Q : VK} (h : tD K ct W (xLcN c it own t tt te) σ H Q) :
    tLc (tI K ct W it) (tgR K t) (tT K ct W0 tt) (tD K ct W0 te) own σ H Q := by
  obtain ⟨F, as, env, cs, ok, sl, h⟩ := h
  refine ⟨F, as, env, cs, ok, sl, out_imp (out_bnd h) fun i cs1 F1 H1 as1 g1 ok1 h1 J hJ A hA => ?_⟩
  split at h1
  · rename_i hz
    have h2 := out_noX (W' := W0) (n' := σ.length) (out_bnd h1)
    have slw : Sl K F1 as1 (wipe σ own) (wip env own) := (sl.gro g1).wip own
    refine ⟨fun k m H' => m = i.items.length - k ∧ k ≤ i.items.length ∧ ∃ F2 H2 as2 cs2 ys ds, Gro F1 H1 as1 F2 H2 as2 ∧ Ok K F2 H2 as2 cs2 ∧ H2 A = none ∧ H' = upd H2 A (.lst ys) ∧ DvL K F2 as2 ys ds ∧ ys.length ≤ k ∧
        out K ct W0 σ.length F2 H2 as2 (lcGo i.live t tt te (wip env own) (i.items.drop k) cs2) fun zs cs3 F3 H3 as3 => out K ct W σ.length F3 H3 as3 (mkL c (ds ++ zs) cs3) (oD K Q),
      ⟨i.items.length, by simp, Nat.zero_le _, F1, H1, as1, cs1, [], [], Gro.refl _ _ _, ok1, hA, rfl, .nil, Nat.le_refl _, h2⟩, ?_⟩
    rintro k m H' ⟨rfl, hk, F2, H2, as2, cs2, ys, ds, g2, ok2, hA2, rfl, l2, hl, h3⟩
    cases q : i.items.drop k with
    | nil =>
      rw [q] at h3
      obtain ⟨lv, h3⟩ := out_guard h3
      have ek := drop_nil q hk
      have okA := ok_out (.lst ys) ok2 hA2
      have st := (hJ F2 (upd H2 A (.lst ys)) as2 cs2 (g2.trans (gro_out _ ok2 hA2)) okA lv).2
      refine .inl ⟨by rw [ek]; exact st, ?_⟩
      have h4 := out_ok ok2 h3
      rw [List.append_nil] at h4
      exact new_mk ok2 l2 h4 A hA2
    | cons x r =>
      rw [q] at h3
      obtain ⟨hx, hr, hlt⟩ := getElem_drop q
      obtain ⟨lv, h3⟩ := out_guard h3
      have okA := ok_out (.lst ys) ok2 hA2
      have gA := gro_out (.lst ys) ok2 hA2
      obtain ⟨go, yl⟩ := (hJ F2 _ as2 cs2 (g2.trans gA) okA lv).1 k x hx
      refine .inr ⟨go, fun H' => k + 1 ≤ i.items.length ∧ ∃ F2 H2 as2 cs2 ys ds, Gro F1 H1 as1 F2 H2 as2 ∧ Ok K F2 H2 as2 cs2 ∧ H2 A = none ∧ H' = upd H2 A (.lst ys) ∧ DvL K F2 as2 ys ds ∧ ys.length ≤ k + 1 ∧
        out K ct W0 σ.length F2 H2 as2 (lcGo i.live t tt te (wip env own) (i.items.drop (k + 1)) cs2) fun zs cs3 F3 H3 as3 => out K ct W σ.length F3 H3 as3 (mkL c (ds ++ zs) cs3) (oD K Q),
        fun H' hN => ⟨i.items.length - (k + 1), by omega, rfl, hN⟩, fun v H3 hy => ?_⟩
      obtain ⟨F3, g3, ok3, dv⟩ := yl v H3 hy
      obtain ⟨e3, g3', ok3'⟩ := hide_gro ok2 hA2 g3 ok3
      have slw3 : Sl K F3 as2 (wipe σ own) (wip env own) := (slw.gro g2).gro g3'
      cases q2 : tgS t x (wip env own) with
      | none =>
        rw [q2] at h3
        exact False.elim h3
      | some env1 =>
        rw [q2] at h3
        obtain ⟨σ2, sl2, len2, wp2, tq⟩ := tg_ok ok3 dv slw3 q2
        refine tq _ ⟨?_, ?_⟩
        · rw [wp2 own ht, wipe_idem]
        · have hl2 : σ2.length = σ.length := by rw [len2, wipe_length]
          refine ⟨F3, as2, env1, cs2, ok3, sl2, ?_⟩
          rw [e3, hl2]
          refine out_imp (out_hide ok3' rm_same (out_bnd (out_mono g3' h3))) fun b cs4 F4 H4 as4 _ ok4 h4 => ?_
          obtain ⟨e4, g4, ok4', h4⟩ := h4
          cases b with
          | true =>
            rw [if_pos rfl] at h4 ⊢
            refine ⟨F4, as4, env1, cs4, ok4, sl2.gro g4, ?_⟩
            rw [e4, hl2]
            refine out_imp (out_hide ok4' rm_same (out_bnd h4)) fun y cs5 F5 H5 as5 _ ok5 h5 w hw => ?_
            obtain ⟨e5, g5, ok5', h5⟩ := h5
            refine ⟨ys, by rw [e5, upd_same], Nat.lt_of_le_of_lt hl (Nat.lt_of_lt_of_le hlt (szOk_le hz)), by omega, F5, rm H5 A, as5, cs5, ys ++ [w], ds ++ [y], ((g2.trans g3').trans g4).trans g5, ok5', rm_same, ?_, ((((l2.gro g3').gro g4).gro g5)).append (.cons hw .nil), by rw [List.length_append]; exact Nat.succ_le_succ hl, ?_⟩
            · exact upd_rm.symm
            · rw [hr]
              refine out_imp (out_bnd h5) fun zs cs6 F6 H6 as6 _ ok6 h6 => ?_
              have h7 := out_ok ok6 h6
              rw [List.append_assoc]
              exact h7
          | false =>
            rw [if_neg Bool.false_ne_true] at h4 ⊢
            exact ⟨by omega, F4, rm H4 A, as4, cs4, ys, ds, (g2.trans g3').trans g4, ok4', rm_same, e4, (l2.gro g3').gro g4, Nat.le_succ_of_le hl, by rw [hr]; exact h4⟩
  · exact False.elim h1
end
end G
/-! G4: statements. -/
namespace G
open L2 PySem PySem.Spec PyProof.Rows
section
variable {X : Cx} {ct : Ct} {W : WX} {pos : Pos}
/-! ### comprehensions, as rules -/
theorem gts_nil : PTs X [] (tT X.K ct W bYes) := ⟨fun pins s σ H Q I h => pts_nil.run pins s σ H Q I (by
  obtain ⟨F, as, env, cs, ok, sl, h⟩ := h
  exact out_ok ok h)⟩
theorem gts_one {c : Expr} {b : En → M Bool} (h : PT X c (tT X.K ct W b)) : PTs X [c] (tT X.K ct W b) := pts_one h
theorem ge_lc (c : Bool) {elt tg iter : Expr} {ifs : List Expr} {scope : Scope} {own : List (Str × Nat)} {it : En → M It0} {t : Tg} {tt : En → M Bool} {te : En → M D} (hc : X.calm = true) (hN : X.N.Nodup) (hi : PI X tg iter (tI X.K ct W it)) (ok : BlkOk X.N X.env.scope scope own) (hsl : ∀ j ∈ t.slots, j ∈ own.map (·.2))
    (hg : ∀ (s : Shared) (H : Hp) (C : Addr) (cl : List (Str × Addr)) (fp : List Addr), PG (X.blk s H scope (compEnvC scope cl C X.env) fp) tg (tgR X.K t)) (ht : ∀ (s : Shared) (H : Hp) (C : Addr) (cl : List (Str × Addr)) (fp : List Addr), PTs (X.blk s H scope (compEnvC scope cl C X.env) fp) ifs (tT X.K ct W0 tt))
    (he : ∀ (s : Shared) (H : Hp) (C : Addr) (cl : List (Str × Addr)) (fp : List Addr), PE (X.blk s H scope (compEnvC scope cl C X.env) fp) elt (tD X.K ct W0 te)) (hs : ∀ x, foldedSetIterable iter X.env x = pure x := by intro _; rfl) :
    PE X (.ListComp elt [⟨tg, iter, ifs, 0⟩] scope pos) (tD X.K ct W (xLcN c it (own.map (·.2)) t tt te)) := PE.imp (pe_lc hc hN hi ok hg ht he hs) fun _ _ _ h => lc_of hsl h
/-! ### statements -/
def sSeq (a b : En → M Fl) : En → M Fl := fun env => M.bnd (a env) fun f => match f with
  | .nx e => b e
  | f => M.ret f
def sSkip : En → M Fl := fun env => M.ret (.nx env)
variable {st : Stmt} {rest body els : List Stmt} {e : Expr} {a b : En → M Fl} {m : En → M D}
theorem seq_of {K : PySem.W.Frag} {D : Ends} {σ : L2.St} {H : Hp} (h : tS K ct W (sSeq a b) D σ H) : tSeq (tS K ct W a) (tS K ct W b) D σ H := by
  obtain ⟨F, as, env, cs, ok, sl, h⟩ := h
  refine ⟨F, as, env, cs, ok, sl, out_imp (out_bnd h) fun f cs1 F1 H1 as1 g ok1 h1 => ?_⟩
  cases f with
  | nx env' =>
    intro σ' hl sl'
    refine ⟨F1, as1, env', cs1, ok1, sl', ?_⟩
    rw [hl]
    exact h1
  | rt d => exact h1 F1 H1 as1 (Gro.refl F1 H1 as1) ok1
  | bk env' => exact h1 F1 H1 as1 (Gro.refl F1 H1 as1) ok1
  | ct env' => exact h1 F1 H1 as1 (Gro.refl F1 H1 as1) ok1
theorem gs_cons (h1 : PS X st (tS X.K ct W a)) (h2 : PSs X rest (tS X.K ct W b)) : PSs X (st :: rest) (tS X.K ct W (sSeq a b)) := PSs.imp (pss_cons h1 h2) fun _ _ _ => seq_of
theorem gs_one (h : PS X st (tS X.K ct W a)) : PSs X [st] (tS X.K ct W a) := pss_one h
theorem gs_nil : PSs X [] (tS X.K ct W sSkip) := PSs.imp pss_nil (by
  rintro D σ H ⟨F, as, env, cs, ok, sl, h⟩
  exact out_ok ok h σ rfl sl)
/-- x = e, a, b = e -/
def sAsg (m : En → M D) (t : Tg) : En → M Fl := fun env => M.bnd (m env) fun d => match tgS t d env with
  | some e => M.ret (.nx e)
  | none => M.no
theorem asg_of {K : PySem.W.Frag} {t : Tg} {te : TE} {D : Ends} {σ : L2.St} {H : Hp} (k : ∀ Q, tD K ct W m σ H Q → te σ H Q) (h : tS K ct W (sAsg m t) D σ H) : tAsg te (tgR K t) D σ H := by
  obtain ⟨F, as, env, cs, ok, sl, h⟩ := h
  refine k _ ⟨F, as, env, cs, ok, sl, out_imp (out_bnd h) fun d cs1 F1 H1 as1 g ok1 h1 v hv => ?_⟩
  cases q : tgS t d env with
  | none =>
    rw [q] at h1
    exact False.elim h1
  | some env1 =>
    rw [q] at h1
    obtain ⟨σ', sl', hl, _, tq⟩ := tg_ok ok1 hv (sl.gro g) q
    exact tq _ (out_ok ok1 h1 σ' hl sl')
theorem gs_asg {t : Tg} (h : PS X st (tAsg (tD X.K ct W m) (tgR X.K t))) : PS X st (tS X.K ct W (sAsg m t)) := PS.imp h fun _ _ _ h => asg_of (fun _ q => q) h
theorem gs_lc {i : Nat} {c : Bool} {own : List (Str × Nat)} {it : En → M It0} {t : Tg} {tt : En → M Bool} {te : En → M D} (hsl : ∀ j ∈ t.slots, j ∈ own.map (·.2)) (h : PS X st (tAsg (tLc (tI X.K ct W it) (tgR X.K t) (tT X.K ct W0 tt) (tD X.K ct W0 te) (own.map (·.2))) (gName i))) : PS X st (tS X.K ct W (sAsg (xLcN c it (own.map (·.2)) t tt te) (.nm i))) :=
  PS.imp h fun _ _ _ h => asg_of (t := .nm i) (fun _ q => lc_of hsl q) h
/-- an expression alone -/
def sDrop (m : En → M D) : En → M Fl := fun env => M.bnd (m env) fun _ => M.ret (.nx env)
theorem gs_drop (he : PE X e (tD X.K ct W m)) (hs : swapsWith e none pos.line X.env = pure false := by rfl) : PS X (.Expr e pos) (tS X.K ct W (sDrop m)) := PS.imp (ps_expr he hs) (by
  rintro D σ H ⟨F, as, env, cs, ok, sl, h⟩
  exact ⟨F, as, env, cs, ok, sl, out_imp (out_bnd h) fun d cs1 F1 H1 as1 g ok1 h1 v hv => out_ok ok1 h1 σ rfl (sl.gro g)⟩)
def sRet (m : En → M D) : En → M Fl := fun env => M.bnd (m env) fun d => M.ret (.rt d)
theorem gs_ret (he : PE X e (tD X.K ct W m)) : PS X (.Return (some e) pos) (tS X.K ct W (sRet m)) := PS.imp (ps_ret he) (by
  rintro D σ H ⟨F, as, env, cs, ok, sl, h⟩
  exact ⟨F, as, env, cs, ok, sl, out_imp (out_bnd h) fun d cs1 F1 H1 as1 g ok1 h1 v hv => out_ok ok1 h1 v hv⟩)
def sIf (t : En → M Bool) (a b : En → M Fl) : En → M Fl := fun env => M.bnd (t env) fun k => if k = true then a env else b env
theorem gs_if {c : Expr} {t : En → M Bool} (hc : PT X c (tT X.K ct W t)) (ha : PSs X body (tS X.K ct W a)) (hb : PSs X els (tS X.K ct W b)) : PS X (.If c body els pos) (tS X.K ct W (sIf t a b)) := PS.imp (ps_if hc ha hb) (by
  rintro D σ H ⟨F, as, env, cs, ok, sl, h⟩
  refine ⟨F, as, env, cs, ok, sl, out_imp (out_bnd h) fun k cs1 F1 H1 as1 g ok1 h1 => ?_⟩
  cases k with
  | true => exact ⟨F1, as1, env, cs1, ok1, sl.gro g, h1⟩
  | false => exact ⟨F1, as1, env, cs1, ok1, sl.gro g, h1⟩)
/-- while, by fuel -/
def sWhile (t : En → M Bool) (b : En → M Fl) : Nat → En → M Fl
  | 0 => fun _ => M.no
  | n + 1 => fun env => M.bnd (t env) fun k => if k = true then M.bnd (b env) fun f => match f with
    | .nx e => sWhile t b n e
    | .ct e => sWhile t b n e
    | .bk e => M.ret (.nx e)
    | .rt d => M.ret (.rt d)
    else M.ret (.nx env)
theorem gs_while (n : Nat) {c : Expr} {t : En → M Bool} (hp : PassesOwn (model X.prog X.w) X.A X.env X.xe) (hc : PT X c (tT X.K ct W t)) (hb : PSs X body (tS X.K ct W b)) : PS X (.While c body [] pos) (tS X.K ct W (sWhile t b n)) := PS.imp (ps_while hp hc hb) (by
  intro D σ H h
  refine ⟨fun k σ' H' => σ'.length = σ.length ∧ tS X.K ct W (sWhile t b k) D σ' H', ⟨n, rfl, h⟩, ?_⟩
  rintro k σ' H' ⟨hl, F, as, env, cs, ok, sl, h⟩
  cases k with
  | zero => exact False.elim h
  | succ k =>
    refine ⟨F, as, env, cs, ok, sl, out_imp (out_bnd h) fun q cs1 F1 H1 as1 g ok1 h1 => ?_⟩
    cases q with
    | false => exact out_ok ok1 h1 σ' rfl (sl.gro g)
    | true =>
      rw [if_pos rfl] at h1 ⊢
      refine ⟨fun σ2 H2 => σ2.length = σ.length ∧ tS X.K ct W (sWhile t b k) D σ2 H2, fun σ2 H2 z => ⟨k, Nat.lt_succ_self k, z⟩, F1, as1, env, cs1, ok1, sl.gro g, out_imp (out_bnd h1) fun f cs2 F2 H2 as2 g2 ok2 h2 => ?_⟩
      cases f with
      | nx e => exact fun σ2 hl2 sl2 => ⟨hl2.trans hl, F2, as2, e, cs2, ok2, sl2, by rw [hl2]; exact h2⟩
      | ct e => exact fun σ2 hl2 sl2 => ⟨hl2.trans hl, F2, as2, e, cs2, ok2, sl2, by rw [hl2]; exact h2⟩
      | bk e =>
        intro σ2 hl2 sl2
        exact h2 F2 H2 as2 (Gro.refl F2 H2 as2) ok2 σ2 hl2 sl2
      | rt d => exact h2 F2 H2 as2 (Gro.refl F2 H2 as2) ok2)
/-- for -/
def forGo (live : Cs → Bool) (t : Tg) (b : En → M Fl) : List D → En → M Fl
  | [], env => guardM live (M.ret (.nx env))
  | x :: r, env => guardM live (match tgS t x env with
    | some env1 => M.bnd (b env1) fun f => match f with
      | .nx e => forGo live t b r e
      | .ct e => forGo live t b r e
      | .bk e => M.ret (.nx e)
      | .rt d => M.ret (.rt d)
    | none => M.no)
def sFor (it : En → M It0) (t : Tg) (b : En → M Fl) : En → M Fl := fun env => M.bnd (it env) fun i => forGo i.live t b i.items env
theorem gs_for {tg iter : Expr} {it : En → M It0} {t : Tg} (hp : PassesOwn (model X.prog X.w) X.A X.env X.xe) (hc : X.calm = true) (hi : PI X tg iter (tI X.K ct W it)) (hg : PG X tg (tgR X.K t)) (hb : PSs X body (tS X.K ct W b)) (hs : ∀ x, foldedSetIterable iter X.env x = pure x := by intro _; rfl) :
    PS X (.For tg iter body [] pos) (tS X.K ct W (sFor it t b)) := PS.imp (ps_for hp hc hi hg hb hs) (by
  rintro D σ H ⟨F, as, env, cs, ok, sl, h⟩
  refine ⟨F, as, env, cs, ok, sl, out_imp (out_bnd h) fun i cs1 F1 H1 as1 g1 ok1 h1 J hJ => ?_⟩
  refine ⟨fun k m σ' H' => m = i.items.length - k ∧ k ≤ i.items.length ∧ σ'.length = σ.length ∧ ∃ F2 as2 env2 cs2, Gro F1 H1 as1 F2 H' as2 ∧ Ok X.K F2 H' as2 cs2 ∧ Sl X.K F2 as2 σ' env2 ∧ out X.K ct W σ.length F2 H' as2 (forGo i.live t b (i.items.drop k) env2 cs2) (oS X.K σ.length D),
    ⟨i.items.length, by simp, Nat.zero_le _, rfl, F1, as1, env, cs1, Gro.refl _ _ _, ok1, sl.gro g1, h1⟩, ?_⟩
  rintro k m σ' H' ⟨rfl, hk, hl, F2, as2, env2, cs2, g2, ok2, sl2, h2⟩
  cases q : i.items.drop k with
  | nil =>
    rw [q] at h2
    obtain ⟨lv, h2⟩ := out_guard h2
    have ek := drop_nil q hk
    exact .inl ⟨by rw [ek]; exact (hJ F2 H' as2 cs2 g2 ok2 lv).2, out_ok ok2 h2 σ' hl sl2⟩
  | cons x r =>
    rw [q] at h2
    obtain ⟨hx, hr, hlt⟩ := getElem_drop q
    obtain ⟨lv, h2⟩ := out_guard h2
    obtain ⟨go, yl⟩ := (hJ F2 H' as2 cs2 g2 ok2 lv).1 k x hx
    refine .inr ⟨go, fun σ3 H3 => k + 1 ≤ i.items.length ∧ σ3.length = σ.length ∧ ∃ F2 as2 env2 cs2, Gro F1 H1 as1 F2 H3 as2 ∧ Ok X.K F2 H3 as2 cs2 ∧ Sl X.K F2 as2 σ3 env2 ∧ out X.K ct W σ.length F2 H3 as2 (forGo i.live t b (i.items.drop (k + 1)) env2 cs2) (oS X.K σ.length D),
      fun σ3 H3 z => ⟨i.items.length - (k + 1), by omega, rfl, z⟩, fun v H3 hy => ?_⟩
    obtain ⟨F3, g3, ok3, dv⟩ := yl v H3 hy
    cases q2 : tgS t x env2 with
    | none =>
      rw [q2] at h2
      exact False.elim h2
    | some env3 =>
      rw [q2] at h2
      obtain ⟨σ3, sl3, l3, _, tq⟩ := tg_ok ok3 dv (sl2.gro g3) q2
      have hl3 : σ3.length = σ.length := l3.trans hl
      refine tq _ ⟨F3, as2, env3, cs2, ok3, sl3, ?_⟩
      rw [hl3]
      refine out_imp (out_bnd (out_mono g3 h2)) fun f cs4 F4 H4 as4 g4 ok4 h4 => ?_
      cases f with
      | nx e => exact fun σ4 l4 sl4 => ⟨by omega, l4, F4, as4, e, cs4, (g2.trans g3).trans g4, ok4, sl4, by rw [hr]; exact h4⟩
      | ct e => exact fun σ4 l4 sl4 => ⟨by omega, l4, F4, as4, e, cs4, (g2.trans g3).trans g4, ok4, sl4, by rw [hr]; exact h4⟩
      | bk e => exact h4 F4 H4 as4 (Gro.refl F4 H4 as4) ok4
      | rt d => exact h4 F4 H4 as4 (Gro.refl F4 H4 as4) ok4)
/-! ### cells written -/
def cApp (i : Nat) (y : D) : M D := fun cs => match cs[i]? with
  | some xs => if szOk xs.length = true then .ok .non (cs.set i (xs ++ [y])) else .no
  | none => .no
def cPop (i : Nat) : M D := fun cs => match cs[i]? with
  | some xs => (match xs[xs.length - 1]? with
    | some y => .ok y (cs.set i xs.dropLast)
    | none => .no)
  | none => .no
def cPopAt (i : Nat) : D → M D
  | .int k => fun cs => match cs[i]? with
    | some xs => if decide (0 ≤ k ∧ k < xs.length ∧ k < 2 ^ 63) = true then (match xs[k.toNat]? with
      | some y => .ok y (cs.set i (xs.eraseIdx k.toNat))
      | none => .no) else .no
    | none => .no
  | _ => M.no
def xApp (o v : En → M D) : En → M D := fun env => M.bnd (o env) fun d => match d with
  | .ref i => M.bnd (v env) (cApp i)
  | _ => M.no
def xPop (o : En → M D) : En → M D := fun env => M.bnd (o env) fun d => match d with
  | .ref i => cPop i
  | _ => M.no
def xPopAt (o v : En → M D) : En → M D := fun env => M.bnd (o env) fun d => match d with
  | .ref i => M.bnd (v env) (cPopAt i)
  | _ => M.no
def sSetIx (v o i : En → M D) : En → M Fl := fun env => M.bnd (v env) fun y => M.bnd (o env) fun d => M.bnd (i env) fun k => match d, k with
  | .ref a, .int j => fun cs => match cs[a]? with
    | some xs => (match ixN xs.length j with
      | some n => .ok (.nx env) (cs.set a (xs.set n y))
      | none => .no)
    | none => .no
  | _, _ => M.no
variable {o i : Expr} {mo mi : En → M D} {apos : Pos}
theorem ref_at {K : PySem.W.Frag} {F H : Hp} {as : List Addr} {cs : Cs} {v : V} {i : Nat} {xs : List D} (ok : Ok K F H as cs) (h : Dv K F as v (.ref i)) (e : cs[i]? = some xs) : ∃ a ys, v = .ref a ∧ as[i]? = some a ∧ H a = some (.lst ys) ∧ DvL K F as ys xs := by
  cases h with
  | ref h1 =>
    obtain ⟨_, ys, h2, h3⟩ := ok.cell _ _ _ h1 e
    exact ⟨_, ys, rfl, h1, h2, h3⟩
theorem tyV_list {K : PySem.W.Frag} {H : Hp} {a : Addr} {ys : List V} (h : H a = some (.lst ys)) : tyV K "list" (.ref a) H := .inl ⟨rfl, ys, SqL.of h⟩
theorem tyV_ref {K : PySem.W.Frag} {F H : Hp} {as : List Addr} {cs : Cs} {v : V} {i : Nat} (ok : Ok K F H as cs) (h : Dv K F as v (.ref i)) : tyV K "list" v H := by
  cases h with
  | ref h1 =>
    obtain ⟨_, ys, h2⟩ := ok.old (List.mem_of_getElem? h1)
    exact tyV_list h2
theorem DvL.dropLast {K : PySem.W.Frag} {F : Hp} {as : List Addr} {vs : List V} {ds : List D} (h : DvL K F as vs ds) : DvL K F as vs.dropLast ds.dropLast := by
  rw [List.dropLast_eq_take, List.dropLast_eq_take, h.length]
  exact h.take _
theorem ge_app (ho : PE X o (tD X.K ct W mo)) (he : PE X e (tD X.K ct W m)) (hbase : attributeBase o "append" X.env (eval o X.env) = eval o X.env := by rfl)
    (hfew : ((backTo pos (starEach [e] X.env)).all (fun x => !x.1) && (backToKw pos (keywordEach [] X.env)).all (fun x => x.1.isSome) && decide (([e] : List Expr).length + ([] : List Keyword).length + (if ([] : List Keyword).isEmpty then 0 else 1) < 30)) = true := by rfl)
    (hline : (apos.endLine == pos.line) = true := by rfl) (hs : starEach [e] X.env = (false, eval e X.env) :: starEach [] X.env := by rfl) (hplain : (backTo pos (starEach [] X.env)).any (·.1) = false := by rfl) :
    PE X (.Call (.Attribute o "append" apos) [e] [] pos) (tD X.K ct W (xApp mo m)) := PE.imp (pe_bm PySem.F.plainAttrs_list PySem.F.slot_list_append PySem.F.type_list_append mt_append ho (pa_cons he pa_nil hs) hbase hfew hline hs hplain) (by
  rintro σ H Q ⟨F, as, env, cs, ok, sl, h⟩
  refine ⟨F, as, env, cs, ok, sl, out_imp (out_bnd h) fun d cs1 F1 H1 as1 g1 ok1 h1 v hv => ?_⟩
  split at h1
  · rename_i i
    refine ⟨tyV_ref ok1 hv, F1, as1, env, cs1, ok1, sl.gro g1, out_imp (out_bnd h1) fun y cs2 F2 H2 as2 g2 ok2 h2 u hu => ?_⟩
    unfold cApp at h2
    split at h2
    · split at h2
      · rename_i xs e1 q
        obtain ⟨a, ys, rfl, ha, hH, l⟩ := ref_at ok2 (hv.gro g2) e1
        exact ⟨a, ys, u, rfl, rfl, hH, by rw [l.length]; exact szOk_lt q, h2 _ _ as2 (gro_set _ ok2 ha hH) (ok_set ok2 ha (l.append (.cons hu .nil))) _ .non⟩
      · exact False.elim h2
    · exact False.elim h2
  · exact False.elim h1)
theorem ge_pop (ho : PE X o (tD X.K ct W mo)) (hbase : attributeBase o "pop" X.env (eval o X.env) = eval o X.env := by rfl) (hline : (apos.endLine == pos.line) = true := by rfl) :
    PE X (.Call (.Attribute o "pop" apos) [] [] pos) (tD X.K ct W (xPop mo)) := PE.imp (pe_bm0 PySem.F.plainAttrs_list PySem.F.slot_list_pop PySem.F.type_list_pop mt_pop ho hbase hline) (by
  rintro σ H Q ⟨F, as, env, cs, ok, sl, h⟩
  refine ⟨F, as, env, cs, ok, sl, out_imp (out_bnd h) fun d cs1 F1 H1 as1 g1 ok1 h1 v hv => ?_⟩
  split at h1
  · rename_i i
    refine ⟨tyV_ref ok1 hv, ?_⟩
    unfold cPop at h1
    split at h1
    · rename_i xs e1
      obtain ⟨a, ys, rfl, ha, hH, l⟩ := ref_at ok1 hv e1
      cases q : xs[xs.length - 1]? with
      | none =>
        rw [q] at h1
        exact False.elim h1
      | some y =>
        rw [q] at h1
        obtain ⟨w, hw, dw⟩ := l.get q
        exact ⟨a, ys, w, rfl, rfl, hH, by rw [l.length]; exact hw, h1 _ _ as1 (gro_set _ ok1 ha hH) (ok_set ok1 ha l.dropLast) _ dw⟩
    · exact False.elim h1
  · exact False.elim h1)
theorem ge_popAt (ho : PE X o (tD X.K ct W mo)) (he : PE X e (tD X.K ct W m)) (hbase : attributeBase o "pop" X.env (eval o X.env) = eval o X.env := by rfl)
    (hfew : ((backTo pos (starEach [e] X.env)).all (fun x => !x.1) && (backToKw pos (keywordEach [] X.env)).all (fun x => x.1.isSome) && decide (([e] : List Expr).length + ([] : List Keyword).length + (if ([] : List Keyword).isEmpty then 0 else 1) < 30)) = true := by rfl)
    (hline : (apos.endLine == pos.line) = true := by rfl) (hs : starEach [e] X.env = (false, eval e X.env) :: starEach [] X.env := by rfl) (hplain : (backTo pos (starEach [] X.env)).any (·.1) = false := by rfl) :
    PE X (.Call (.Attribute o "pop" apos) [e] [] pos) (tD X.K ct W (xPopAt mo m)) := PE.imp (pe_bm PySem.F.plainAttrs_list PySem.F.slot_list_pop PySem.F.type_list_pop mt_popAt ho (pa_cons he pa_nil hs) hbase hfew hline hs hplain) (by
  rintro σ H Q ⟨F, as, env, cs, ok, sl, h⟩
  refine ⟨F, as, env, cs, ok, sl, out_imp (out_bnd h) fun d cs1 F1 H1 as1 g1 ok1 h1 v hv => ?_⟩
  split at h1
  · rename_i i
    refine ⟨tyV_ref ok1 hv, F1, as1, env, cs1, ok1, sl.gro g1, out_imp (out_bnd h1) fun y cs2 F2 H2 as2 g2 ok2 h2 u hu => ?_⟩
    unfold cPopAt at h2
    split at h2
    · rename_i k
      try dsimp only at h2
      split at h2
      · split at h2
        · rename_i xs e1 q
          obtain ⟨q1, q2, q3⟩ := of_decide_eq_true q
          obtain ⟨a, ys, rfl, ha, hH, l⟩ := ref_at ok2 (hv.gro g2) e1
          cases hu
          cases q4 : xs[k.toNat]? with
          | none =>
            rw [q4] at h2
            exact False.elim h2
          | some y =>
            rw [q4] at h2
            obtain ⟨w, hw, dw⟩ := l.get q4
            exact ⟨a, ys, k, k.toNat, w, rfl, rfl, hH, by omega, q3, seqIndex_of q1 (by rw [l.length]; exact q2), hw, h2 _ _ as2 (gro_set _ ok2 ha hH) (ok_set ok2 ha (l.eraseIdx _)) _ dw⟩
        · exact False.elim h2
      · exact False.elim h2
    · exact False.elim h2
  · exact False.elim h1)
theorem gs_setIx (h : PS X st (tAsg (tD X.K ct W m) (gSub (tD X.K ct W mo) (tD X.K ct W mi) rSetL))) : PS X st (tS X.K ct W (sSetIx m mo mi)) := PS.imp h (by
  rintro D σ H ⟨F, as, env, cs, ok, sl, h⟩
  refine ⟨F, as, env, cs, ok, sl, out_imp (out_bnd h) fun y cs1 F1 H1 as1 g1 ok1 h1 v hv => ?_⟩
  refine ⟨F1, as1, env, cs1, ok1, sl.gro g1, out_imp (out_bnd h1) fun d cs2 F2 H2 as2 g2 ok2 h2 u hu => ?_⟩
  refine ⟨F2, as2, env, cs2, ok2, (sl.gro g1).gro g2, out_imp (out_bnd h2) fun k cs3 F3 H3 as3 g3 ok3 h3 w hw => ?_⟩
  split at h3
  · rename_i i j
    try dsimp only at h3
    split at h3
    · rename_i xs e1
      obtain ⟨a, ys, rfl, ha, hH, l⟩ := ref_at ok3 (hu.gro g3) e1
      cases hw
      cases q : ixN xs.length j with
      | none =>
        rw [q] at h3
        exact False.elim h3
      | some n =>
        rw [q] at h3
        have g4 := gro_set (.lst (ys.set n v)) ok3 ha hH
        exact ⟨a, ys, j, n, rfl, rfl, hH, by rw [l.length]; exact q, h3 _ _ as3 g4 (ok_set ok3 ha (l.set ((hv.gro g2).gro g3) n)) σ rfl (((sl.gro g1).gro g2).gro g3 |>.gro g4)⟩
    · exact False.elim h3
  · exact False.elim h3)
end
end G
/-! G5: defs, calls, refusals. -/
namespace G
open L2 PySem PySem.Spec PyProof.Rows
/-! ### cells resolved -/
mutual
def rsG (r : Nat → Option D) : D → Option D
  | .tup xs => (rsGL r xs).map .tup
  | .lst xs => (rsGL r xs).map .lst
  | .ref i => r i
  | .non => some .non
  | .bl b => some (.bl b)
  | .int i => some (.int i)
  | .str x => some (.str x)
  | .dic => some .dic
  | .scr ns => some (.scr ns)
def rsGL (r : Nat → Option D) : List D → Option (List D)
  | [] => some []
  | d :: ds => match rsG r d, rsGL r ds with
    | some p, some ps => some (p :: ps)
    | _, _ => none
end
def rsN (cs : Cs) : Nat → Nat → Option D
  | 0, _ => none
  | n + 1, i => match cs[i]? with
    | some xs => (rsGL (rsN cs n) xs).map .lst
    | none => none
def res (cs : Cs) (d : D) : Option D := rsG (rsN cs 3) d
open Classical in
noncomputable def frz (F H : Hp) (as : List Addr) : Hp := fun p => if p ∈ as then H p else F p
section
variable {K : PySem.W.Frag} {F H F0 H0 : Hp} {as : List Addr} {cs : Cs}
theorem frz_in {p : Addr} (h : p ∈ as) : frz F H as p = H p := if_pos h
theorem frz_out {p : Addr} (h : p ∉ as) : frz F H as p = F p := if_neg h
theorem ext_frz (ok : Ok K F H as cs) : Ext F (frz F H as) := fun p o h => by
  rw [frz_out fun m => by
    rw [(ok.old m).1] at h
    cases h]
  exact h
theorem frz_ext (ok : Ok K F H as cs) : Ext (frz F H as) H := fun p o h => by
  by_cases m : p ∈ as
  · rw [frz_in m] at h
    exact h
  · rw [frz_out m] at h
    exact ok.fh p o h
theorem ok_frz (ok : Ok K F H as cs) : Ok K (frz F H as) H [] [] := ⟨frz_ext ok, List.nodup_nil, rfl, fun i a xs h _ => by simp at h⟩
theorem gro_frz (ok : Ok K F H as cs) (g : Gro F0 H0 [] F H as) : Gro F0 H0 [] (frz F H as) H [] where
  ff := g.ff.trans (ext_frz ok)
  fn := fun p h => by
    rw [frz_out fun m => (g.an p m).elim (fun z => nomatch z) h]
    exact g.fn p h
  hh := g.hh
  hl := g.hl
  ap := List.prefix_rfl
  an := fun _ m => .inl m
mutual
theorem rsG_dv (ok : Ok K F H as cs) {r : Nat → Option D} (hr : ∀ i p a, r i = some p → as[i]? = some a → Dv K (frz F H as) [] (.ref a) p) : ∀ {v : V} {d p : D}, Dv K F as v d → rsG r d = some p → Dv K (frz F H as) [] v p
  | _, _, _, .non, e => by
    cases e
    exact .non
  | _, _, _, .bl b, e => by
    cases e
    exact .bl b
  | _, _, _, .int i, e => by
    cases e
    exact .int i
  | _, _, _, .str x, e => by
    cases e
    exact .str x
  | _, _, p, .tup (ds := ds) h l, e => by
    have e2 : (rsGL r ds).map D.tup = some p := e
    cases q : rsGL r ds with
    | none =>
      rw [q] at e2
      cases e2
    | some ps =>
      rw [q] at e2
      cases e2
      exact .tup (ext_frz ok _ _ h) (rsGL_dv ok hr l q)
  | _, _, p, .lst (ds := ds) h l, e => by
    have e2 : (rsGL r ds).map D.lst = some p := e
    cases q : rsGL r ds with
    | none =>
      rw [q] at e2
      cases e2
    | some ps =>
      rw [q] at e2
      cases e2
      exact .lst (ext_frz ok _ _ h) (rsGL_dv ok hr l q)
  | _, _, _, .ref h, e => hr _ _ _ e h
  | _, _, _, .dic h, e => by
    cases e
    exact .dic (ext_frz ok _ _ h)
  | _, _, _, .scr h, e => by
    cases e
    exact .scr (ext_l (ext_frz ok) h)
theorem rsGL_dv (ok : Ok K F H as cs) {r : Nat → Option D} (hr : ∀ i p a, r i = some p → as[i]? = some a → Dv K (frz F H as) [] (.ref a) p) : ∀ {vs : List V} {ds ps : List D}, DvL K F as vs ds → rsGL r ds = some ps → DvL K (frz F H as) [] vs ps
  | _, _, _, .nil, e => by
    cases e
    exact .nil
  | _, _, ps, .cons (d := d) (ds := ds) h t, e => by
    have e2 : (match rsG r d, rsGL r ds with
      | some p, some ps => some (p :: ps)
      | _, _ => none) = some ps := e
    split at e2
    · rename_i p qs e3 e4
      cases e2
      exact .cons (rsG_dv ok hr h e3) (rsGL_dv ok hr t e4)
    · cases e2
end
theorem rsN_dv (ok : Ok K F H as cs) : ∀ (n i : Nat) (p : D) (a : Addr), rsN cs n i = some p → as[i]? = some a → Dv K (frz F H as) [] (.ref a) p
  | 0, _, _, _, e, _ => by cases e
  | n + 1, i, p, a, e, ha => by
    have e2 : (match cs[i]? with
      | some xs => (rsGL (rsN cs n) xs).map D.lst
      | none => none) = some p := e
    cases hc : cs[i]? with
    | none =>
      rw [hc] at e2
      cases e2
    | some xs =>
      rw [hc] at e2
      have e3 : (rsGL (rsN cs n) xs).map D.lst = some p := e2
      obtain ⟨_, ys, h1, h2⟩ := ok.cell i a xs ha hc
      cases q : rsGL (rsN cs n) xs with
      | none =>
        rw [q] at e3
        cases e3
      | some ps =>
        rw [q] at e3
        cases e3
        exact .lst (by rw [frz_in (List.mem_of_getElem? ha)]; exact h1) (rsGL_dv ok (rsN_dv ok n) h2 q)
theorem res_dv (ok : Ok K F H as cs) {v : V} {d p : D} (h : Dv K F as v d) (e : res cs d = some p) : Dv K (frz F H as) [] v p := rsG_dv ok (rsN_dv ok 3) h e
/-! ### data without cells -/
mutual
def noR : D → Bool
  | .ref _ => false
  | .tup xs => noRL xs
  | .lst xs => noRL xs
  | _ => true
def noRL : List D → Bool
  | [] => true
  | d :: ds => noR d && noRL ds
end
mutual
theorem Dv.noR : ∀ {v : V} {d : D}, Dv K F as v d → G.noR d = true → Dv K F [] v d
  | _, _, .non, _ => .non
  | _, _, .bl b, _ => .bl b
  | _, _, .int i, _ => .int i
  | _, _, .str x, _ => .str x
  | _, _, .tup h l, e => .tup h (DvL.noR l e)
  | _, _, .lst h l, e => .lst h (DvL.noR l e)
  | _, _, .ref _, e => by cases e
  | _, _, .dic h, _ => .dic h
  | _, _, .scr h, _ => .scr h
theorem DvL.noR : ∀ {vs : List V} {ds : List D}, DvL K F as vs ds → G.noRL ds = true → DvL K F [] vs ds
  | _, _, .nil, _ => .nil
  | _, _, .cons h t, e => by
    obtain ⟨e1, e2⟩ := Bool.and_eq_true_iff.mp (show (G.noR _ && G.noRL _) = true from e)
    exact .cons (Dv.noR h e1) (DvL.noR t e2)
end
end
/-! ### what a def is worth -/
inductive Rp where
  | ok (d : D) | ex (x : Exn) | no
def up : Rp → M D
  | .ok d => M.ret d
  | .ex x => M.thr x
  | .no => M.no
def startE (k : Nat) (ds : List D) : En := ds.map some ++ List.replicate (k - ds.length) none
def runP (c : En → M Fl) (k : Nat) (ds : List D) : Rp := match c (startE k ds) [] with
  | .ok (.rt d) cs => (match res cs d with
    | some p => .ok p
    | none => .no)
  | .ok (.nx _) _ => .ok .non
  | .ok _ _ => .no
  | .ex x _ => .ex x
  | .no => .no
def runM (c : En → M Fl) (k : Nat) (ds : List D) : M D := M.bnd (c (startE k ds)) fun f => match f with
  | .rt d => M.ret d
  | .nx _ => M.ret .non
  | _ => M.no
def spM (K : PySem.W.Frag) (ct : Ct) (n : Nat) (f : List D → M D) : Sp := fun vs H Q E => ∃ F as ds cs, Ok K F H as cs ∧ DvL K F as vs ds ∧ ds.length = n ∧ out K ct (fun c d _ H => E c d H) 0 F H as (f ds cs) (oD K Q)
def spP (K : PySem.W.Frag) (ct : Ct) (n : Nat) (f : List D → Rp) : Sp := fun vs H Q E => ∃ F ds, Ok K F H [] [] ∧ DvL K F [] vs ds ∧ ds.length = n ∧ out K ct (fun c d _ H => E c d H) 0 F H [] (up (f ds) []) (oD K Q)
/-- its list is a new one, nobody else's -/
def oO (K : PySem.W.Frag) (H0 : Hp) (Q : VK) : D → Cs → Hp → Hp → List Addr → Prop := fun d _ F' H' as' => match d with
  | .lst xs => ∀ p ys, H0 p = none → F' p = none → H' p = some (.lst ys) → DvL K F' [] ys xs → Q (.ref p) H'
  | d => ∀ v, Dv K F' as' v d → Q v H'
def spO (K : PySem.W.Frag) (ct : Ct) (n : Nat) (f : List D → Rp) : Sp := fun vs H Q E => ∃ F ds, Ok K F H [] [] ∧ DvL K F [] vs ds ∧ ds.length = n ∧ out K ct (fun c d _ H => E c d H) 0 F H [] (up (f ds) []) (oO K H Q)
section
variable {P : Program} {w : World} {K : PySem.W.Frag} {mg : Str → Option Value} {base : Heap} {ct : Ct}
abbrev FnP (P : Program) (w : World) (K : PySem.W.Frag) (mg : Str → Option Value) (base : Heap) (k : Nat) (f : Addr) (fd : FuncData) (ps : List Str) (sp : Sp) : Prop := FnOk P w K mg base (L2.CX P w) k f fd ps sp
theorem spP_of_O {n : Nat} {f : List D → Rp} {vs : List V} {H : Hp} {Q : VK} {E : XK} (h : spP K ct n f vs H Q E) : spO K ct n f vs H Q E := by
  obtain ⟨F, ds, ok, hv, hl, h⟩ := h
  refine ⟨F, ds, ok, hv, hl, ?_⟩
  cases q : f ds with
  | no =>
    rw [q] at h
    exact h
  | ex x =>
    rw [q] at h
    exact h
  | ok d =>
    rw [q] at h
    intro F' H' as' g ok'
    have h2 := h
    cases d with
    | lst xs =>
      intro p ys hp fp hH hy
      have ea : as' = [] := List.eq_nil_of_length_eq_zero ok'.len
      subst ea
      have ok2 : Ok K (upd F' p (.lst ys)) H' [] [] := ⟨fun a u e => by
        by_cases q : a = p
        · rw [q, upd_same] at e
          cases e
          rw [q]
          exact hH
        · rw [upd_ne q] at e
          exact ok'.fh a u e, List.nodup_nil, rfl, fun i a xs z _ => by simp at z⟩
      have g2 : Gro F H [] (upd F' p (.lst ys)) H' [] := ⟨g.ff.trans (Ext.new fp), fun a ha => by
        rw [upd_ne fun e => ha (by rw [e]; exact hp)]
        exact g.fn a ha, g.hh, g.hl, g.ap, g.an⟩
      exact h2 _ _ [] g2 ok2 _ (.lst upd_same (hy.mono (Ext.new fp) List.prefix_rfl))
    | _ => exact fun v hv => h2 F' H' as' g ok' v hv
theorem FnOk.ofO {n k : Nat} {f : List D → Rp} {fa : Addr} {fd : FuncData} {ps : List Str} (h : FnP P w K mg base k fa fd ps (spO K ct n f)) : FnP P w K mg base k fa fd ps (spP K ct n f) := h.imp fun _ _ _ _ => spP_of_O
theorem ok_nil {K : PySem.W.Frag} {F H : Hp} {as : List Addr} {cs : Cs} (ok : Ok K F H as cs) : Ok K F H [] [] := ⟨ok.fh, List.nodup_nil, rfl, fun i a xs h _ => by simp at h⟩
abbrev FunG (K : PySem.W.Frag) (x : Str) (st : Stmt) (f : Addr) (fd : FuncData) : Prop := FunD K x x (defArgs st) (defBody st) (defScope st) [] [] f fd
/-- the context of a def's body -/
abbrev cxG (P : Program) (w : World) (K : PySem.W.Frag) (mg : Str → Option Value) (base : Heap) (N : List Str) (x : Str) (st : Stmt) (f : Addr) (cdv : Value) (A : Around) (outer : List Env) (s : Shared) (H : Hp) (E : XK) : Cx :=
  cxOf (L2.CX P w) P w K mg base N x (defScope st) f cdv A outer s H E
theorem start_of {N : List Str} {vs : List V} {ds : List D} {F : Hp} {as : List Addr} (h : DvL K F as vs ds) : Sl K F as (L2.start N vs) (startE N.length ds) := by
  unfold L2.start startE
  rw [h.length]
  exact Sl.start _ h
theorem def_P {x : Str} {st : Stmt} {f : Addr} {fd : FuncData} {N ps : List Str} {k n : Nat} {c : En → M Fl} (F : FunG K x st f fd) (S : FnScope N ps (defScope st)) (hn : ps.length = n)
    (body : ∀ (cdv : Value) (A : Around) (outer : List Env) (s : Shared) (H : Hp) (E : XK), Room k (A.deeper (envOfC x (defScope st) s.heap.objs.size f cdv)) → PSs (cxG P w K mg base N x st f cdv A outer s H E) (defBody st) (tS K ct (fun c d _ H => E c d H) c)) :
    FnP P w K mg base (k + 1) f fd ps (spP K ct n (runP c N.length)) := by
  refine F.ok S (fun vs H Q E h => ?_) (fun cdv A outer s H vs Q E hr h => ⟨_, body cdv A outer s H E hr, ?_⟩)
  · obtain ⟨_, _, _, hv, hl, _⟩ := h
    rw [hv.length, hl, hn]
  · obtain ⟨F', ds, ok, hv, hl, h⟩ := h
    refine ⟨F', [], startE N.length ds, [], ok, start_of hv, ?_⟩
    unfold runP at h
    cases q : c (startE N.length ds) [] with
    | no =>
      rw [q] at h
      exact h
    | ex e cs =>
      rw [q] at h
      intro c' d σ' F1 H1 as1 _ g ok1 hx
      have xr : XRel ct H1 e c' d := hx
      exact h c' d [] (frz F1 H1 as1) H1 [] rfl (gro_frz ok1 g) (ok_frz ok1) xr
    | ok fl cs =>
      rw [q] at h
      intro F1 H1 as1 g ok1
      cases fl with
      | nx e => exact fun σ' _ _ => h (frz F1 H1 as1) H1 [] (gro_frz ok1 g) (ok_frz ok1) _ .non
      | bk e => exact False.elim h
      | ct e => exact False.elim h
      | rt d =>
        intro v dv
        have h2 : out K ct (fun c d _ H => E c d H) 0 F' H [] (up (match res cs d with
          | some p => Rp.ok p
          | none => Rp.no) []) (oD K Q) := h
        cases q2 : res cs d with
        | none =>
          rw [q2] at h2
          exact False.elim h2
        | some p =>
          rw [q2] at h2
          exact h2 (frz F1 H1 as1) H1 [] (gro_frz ok1 g) (ok_frz ok1) v (res_dv ok1 dv q2)
theorem def_M {x : Str} {st : Stmt} {f : Addr} {fd : FuncData} {N ps : List Str} {k n : Nat} {c : En → M Fl} (F : FunG K x st f fd) (S : FnScope N ps (defScope st)) (hn : ps.length = n)
    (body : ∀ (cdv : Value) (A : Around) (outer : List Env) (s : Shared) (H : Hp) (E : XK), Room k (A.deeper (envOfC x (defScope st) s.heap.objs.size f cdv)) → PSs (cxG P w K mg base N x st f cdv A outer s H E) (defBody st) (tS K ct (fun c d _ H => E c d H) c)) :
    FnP P w K mg base (k + 1) f fd ps (spM K ct n (runM c N.length)) := by
  refine F.ok S (fun vs H Q E h => ?_) (fun cdv A outer s H vs Q E hr h => ⟨_, body cdv A outer s H E hr, ?_⟩)
  · obtain ⟨_, _, _, _, _, hv, hl, _⟩ := h
    rw [hv.length, hl, hn]
  · obtain ⟨F', as, ds, cs, ok, hv, hl, h⟩ := h
    refine ⟨F', as, startE N.length ds, cs, ok, start_of hv, ?_⟩
    have h2 : out K ct (fun c d _ H => E c d H) 0 F' H as (c (startE N.length ds) cs) _ := out_bnd h
    cases q : c (startE N.length ds) cs with
    | no =>
      rw [q] at h2
      exact h2
    | ex e cs2 =>
      rw [q] at h2
      exact fun c' d σ' F1 H1 as1 _ g ok1 hx => h2 c' d [] F1 H1 as1 rfl g ok1 hx
    | ok fl cs2 =>
      rw [q] at h2
      intro F1 H1 as1 g ok1
      have h3 := h2 F1 H1 as1 g ok1
      cases fl with
      | nx e => exact fun σ' _ _ => h3 F1 H1 as1 (Gro.refl _ _ _) ok1 _ .non
      | bk e => exact False.elim h3
      | ct e => exact False.elim h3
      | rt d => exact fun v dv => h3 F1 H1 as1 (Gro.refl _ _ _) ok1 v dv
def runO (c : En → M Fl) (k : Nat) (ds : List D) : Rp := match c (startE k ds) [] with
  | .ok (.rt (.ref i)) cs => (match cs[i]? with
    | some xs => if noRL xs = true then .ok (.lst xs) else .no
    | none => .no)
  | .ex x _ => .ex x
  | _ => .no
theorem def_O {x : Str} {st : Stmt} {f : Addr} {fd : FuncData} {N ps : List Str} {k n : Nat} {c : En → M Fl} (F : FunG K x st f fd) (S : FnScope N ps (defScope st)) (hn : ps.length = n)
    (body : ∀ (cdv : Value) (A : Around) (outer : List Env) (s : Shared) (H : Hp) (E : XK), Room k (A.deeper (envOfC x (defScope st) s.heap.objs.size f cdv)) → PSs (cxG P w K mg base N x st f cdv A outer s H E) (defBody st) (tS K ct (fun c d _ H => E c d H) c)) :
    FnP P w K mg base (k + 1) f fd ps (spO K ct n (runO c N.length)) := by
  refine F.ok S (fun vs H Q E h => ?_) (fun cdv A outer s H vs Q E hr h => ⟨_, body cdv A outer s H E hr, ?_⟩)
  · obtain ⟨_, _, _, hv, hl, _⟩ := h
    rw [hv.length, hl, hn]
  · obtain ⟨F', ds, ok, hv, hl, h⟩ := h
    refine ⟨F', [], startE N.length ds, [], ok, start_of hv, ?_⟩
    unfold runO at h
    cases q : c (startE N.length ds) [] with
    | no =>
      rw [q] at h
      exact h
    | ex e cs =>
      rw [q] at h
      intro c' d σ' F1 H1 as1 _ g ok1 hx
      exact h c' d [] (frz F1 H1 as1) H1 [] rfl (gro_frz ok1 g) (ok_frz ok1) hx
    | ok fl cs =>
      rw [q] at h
      cases fl with
      | nx e => exact False.elim h
      | bk e => exact False.elim h
      | ct e => exact False.elim h
      | rt d =>
        cases d with
        | ref i =>
          intro F1 H1 as1 g ok1 v dv
          have h2 : out K ct (fun c d _ H => E c d H) 0 F' H [] (up (match cs[i]? with
            | some xs => if noRL xs = true then Rp.ok (.lst xs) else Rp.no
            | none => Rp.no) []) (oO K H Q) := h
          cases q2 : cs[i]? with
          | none =>
            rw [q2] at h2
            exact False.elim h2
          | some xs =>
            rw [q2] at h2
            have h3 : out K ct (fun c d _ H => E c d H) 0 F' H [] (up (if noRL xs = true then Rp.ok (.lst xs) else Rp.no) []) (oO K H Q) := h2
            by_cases nr : noRL xs = true
            · rw [if_pos nr] at h3
              obtain ⟨a, ys, rfl, ha, hH, l⟩ := ref_at ok1 dv q2
              have m : a ∈ as1 := List.mem_of_getElem? ha
              have hn : H a = none := (g.an a m).elim (fun z => nomatch z) fun z => z
              have ok2 : Ok K F1 H1 [] [] := ok_nil ok1
              have g2 : Gro F' H [] F1 H1 [] := ⟨g.ff, g.fn, g.hh, g.hl, List.prefix_rfl, fun _ z => .inl z⟩
              exact h3 F1 H1 [] g2 ok2 a ys hn (ok1.old m).1 hH (l.noR nr)
            · rw [if_neg nr] at h3
              exact False.elim h3
        | _ => exact False.elim h
/-- a def that is never called -/
theorem fn_no {f : Addr} {fd : FuncData} {ps : List Str} {k n : Nat} (hn : ps.length = n) : FnP P w K mg base k f fd ps (spP K ct n fun _ => .no) := ⟨fun vs H Q E h => by
  obtain ⟨_, _, _, hv, hl, _⟩ := h
  rw [hv.length, hl, hn], fun _ _ _ _ _ _ _ _ _ _ _ _ _ h => by
  obtain ⟨_, _, _, _, _, h⟩ := h
  exact False.elim h⟩
/-- where a def stands, what it promises -/
def Dp' (P : Program) (w : World) (K : PySem.W.Frag) (mg : Str → Option Value) (base : Heap) (k : Nat) (x : Str) (ps : List Str) (sp : Sp) : Prop := ∃ fa fd, mg x = some (.ref fa) ∧ PySem.W.keepIn K (.ref fa) = true ∧ L2.Binds K fd ps [] ∧ FnP P w K mg base k fa fd ps sp
theorem Dp'.ofO {k n : Nat} {x : Str} {ps : List Str} {f : List D → Rp} (h : Dp' P w K mg base k x ps (spO K ct n f)) : Dp' P w K mg base k x ps (spP K ct n f) := by
  obtain ⟨fa, fd, a, b, c, d⟩ := h
  exact ⟨fa, fd, a, b, c, FnOk.ofO d⟩
end
/-! ### calls -/
def xCallM (f : List D → M D) (a : En → M (List D)) : En → M D := fun env => M.bnd (a env) f
def xCallP (f : List D → Rp) (a : En → M (List D)) : En → M D := fun env => M.bnd (a env) fun ds => if noRL ds = true then up (f ds) else M.no
def xCallO (f : List D → Rp) (a : En → M (List D)) : En → M D := fun env => M.bnd (a env) fun ds => if noRL ds = true then (match f ds with
  | .ok (.lst xs) => mkL true xs
  | r => up r) else M.no
section
variable {X : Cx} {ct : Ct} {W : WX} {k n : Nat} {fa : Addr} {fd : FuncData} {ps : List Str} {x : Str} {p pos : Pos} {e : Expr} {es : List Expr} {mas : En → M (List D)}
theorem gro_nil {K : PySem.W.Frag} {F H F' H' : Hp} {as : List Addr} {cs : Cs} (ok : Ok K F H as cs) (g : Gro F H [] F' H' []) (ok' : Ok K F' H' [] []) : Gro F H as F' H' as ∧ Ok K F' H' as cs := by
  refine ⟨⟨g.ff, g.fn, fun p o h _ => g.hh p o h (by simp), g.hl, List.prefix_rfl, fun _ m => .inl m⟩, ⟨ok'.fh, ok.nd, ok.len, fun i a xs ha hx => ?_⟩⟩
  obtain ⟨h1, ys, h2, h3⟩ := ok.cell i a xs ha hx
  exact ⟨by rw [g.fn a (by rw [h2]; exact fun z => nomatch z)]; exact h1, ys, g.hh a _ h2 (by simp), h3.mono g.ff List.prefix_rfl⟩
theorem ok_nil' {K : PySem.W.Frag} {F H : Hp} {as : List Addr} {cs : Cs} (ok : Ok K F H as cs) : Ok K F H [] [] := ⟨ok.fh, List.nodup_nil, rfl, fun i a xs h _ => by simp at h⟩
theorem ge_callM {f : List D → M D} (Fn : FnP X.prog X.w X.K X.mg X.base k fa fd ps (spM X.K ct n f)) (hr : Room k X.A) (tk : Takes X W) (hg : Gl X x) (hm : X.mg x = some (.ref fa)) (hk : PySem.W.keepIn X.K (.ref fa) = true) (hb : Binds X.K fd ps []) (hn : ∀ env cs ds cs', mas env cs = .ok ds cs' → ds.length = n)
    (ha : PA X (e :: es) (tA X.K ct W mas)) (hdb : (x == ("__debug__" : Str)) = false := by decide) (he : starEach (e :: es) X.env = (false, eval e X.env) :: starEach es X.env := by rfl) (hpl : (backTo pos (starEach es X.env)).any (·.1) = false := by rfl) :
    PE X (.Call (.Name x p) (e :: es) [] pos) (tD X.K ct W (xCallM f mas)) := PE.imp (pe_callS Fn hr hg hm hk hb (fun σ => passAt tk σ) ha hdb he hpl) (by
  rintro σ H Q ⟨F, as, env, cs, ok, sl, h⟩
  refine ⟨F, as, env, cs, ok, sl, ?_⟩
  have h2 := out_bnd h
  cases q : mas env cs with
  | no =>
    rw [q] at h2
    exact h2
  | ex y cs2 =>
    rw [q] at h2
    exact h2
  | ok ds cs2 =>
    rw [q] at h2
    intro F1 H1 as1 g1 ok1 vs hvs
    refine ⟨F1, as1, ds, cs2, ok1, hvs, hn env cs ds cs2 q, ?_⟩
    have h3 : out X.K ct W σ.length F1 H1 as1 (f ds cs2) (oD X.K Q) := h2 F1 H1 as1 g1 ok1
    cases q2 : f ds cs2 with
    | no =>
      rw [q2] at h3
      exact h3
    | ex y cs3 =>
      rw [q2] at h3
      exact fun c d σ' F2 H2 as2 _ g ok2 hx => h3 c d σ F2 H2 as2 rfl g ok2 hx
    | ok d cs3 =>
      rw [q2] at h3
      exact h3)
theorem callP_core {f : List D → Rp} {σ : L2.St} {H1 F1 : Hp} {as1 : List Addr} {cs1 : Cs} {vs : List V} {ds : List D} {Q : VK} (hlen : ds.length = n) (ok1 : Ok X.K F1 H1 as1 cs1) (hvs : DvL X.K F1 as1 vs ds) (nr : noRL ds = true)
    (h : out X.K ct W σ.length F1 H1 as1 (up (f ds) cs1) (oD X.K Q)) : spP X.K ct n f vs H1 Q (WE W σ) := by
  refine ⟨F1, ds, ok_nil ok1, hvs.noR nr, hlen, ?_⟩
  cases q : f ds with
  | no =>
    rw [q] at h
    exact h
  | ex y =>
    rw [q] at h
    intro c d σ' F2 H2 as2 _ g ok2 hx
    have ea : as2 = [] := List.eq_nil_of_length_eq_zero ok2.len
    subst ea
    obtain ⟨g3, ok3⟩ := gro_nil ok1 g ok2
    exact h c d σ F2 H2 as1 rfl g3 ok3 hx
  | ok d =>
    rw [q] at h
    intro F2 H2 as2 g ok2 v dv
    have ea : as2 = [] := List.eq_nil_of_length_eq_zero ok2.len
    subst ea
    obtain ⟨g3, ok3⟩ := gro_nil ok1 g ok2
    exact h F2 H2 as1 g3 ok3 v (dv.mono (Ext.refl _) (List.nil_prefix))
theorem ge_callP {f : List D → Rp} (Fn : FnP X.prog X.w X.K X.mg X.base k fa fd ps (spP X.K ct n f)) (hr : Room k X.A) (tk : Takes X W) (hg : Gl X x) (hm : X.mg x = some (.ref fa)) (hk : PySem.W.keepIn X.K (.ref fa) = true) (hb : Binds X.K fd ps []) (hn : ∀ env cs ds cs', mas env cs = .ok ds cs' → ds.length = n)
    (ha : PA X (e :: es) (tA X.K ct W mas)) (hdb : (x == ("__debug__" : Str)) = false := by decide) (he : starEach (e :: es) X.env = (false, eval e X.env) :: starEach es X.env := by rfl) (hpl : (backTo pos (starEach es X.env)).any (·.1) = false := by rfl) :
    PE X (.Call (.Name x p) (e :: es) [] pos) (tD X.K ct W (xCallP f mas)) := PE.imp (pe_callS Fn hr hg hm hk hb (fun σ => passAt tk σ) ha hdb he hpl) (by
  rintro σ H Q ⟨F, as, env, cs, ok, sl, h⟩
  refine ⟨F, as, env, cs, ok, sl, ?_⟩
  have h2 := out_bnd h
  cases q : mas env cs with
  | no =>
    rw [q] at h2
    exact h2
  | ex y cs2 =>
    rw [q] at h2
    exact h2
  | ok ds cs2 =>
    rw [q] at h2
    intro F1 H1 as1 g1 ok1 vs hvs
    have h3 : out X.K ct W σ.length F1 H1 as1 ((if noRL ds = true then up (f ds) else M.no) cs2) (oD X.K Q) := h2 F1 H1 as1 g1 ok1
    split at h3
    · rename_i nr
      exact callP_core (hn env cs ds cs2 q) ok1 hvs nr h3
    · exact False.elim h3)
theorem ge_callO {f : List D → Rp} (Fn : FnP X.prog X.w X.K X.mg X.base k fa fd ps (spO X.K ct n f)) (hr : Room k X.A) (tk : Takes X W) (hg : Gl X x) (hm : X.mg x = some (.ref fa)) (hk : PySem.W.keepIn X.K (.ref fa) = true) (hb : Binds X.K fd ps []) (hn : ∀ env cs ds cs', mas env cs = .ok ds cs' → ds.length = n)
    (ha : PA X (e :: es) (tA X.K ct W mas)) (hdb : (x == ("__debug__" : Str)) = false := by decide) (he : starEach (e :: es) X.env = (false, eval e X.env) :: starEach es X.env := by rfl) (hpl : (backTo pos (starEach es X.env)).any (·.1) = false := by rfl) :
    PE X (.Call (.Name x p) (e :: es) [] pos) (tD X.K ct W (xCallO f mas)) := PE.imp (pe_callS Fn hr hg hm hk hb (fun σ => passAt tk σ) ha hdb he hpl) (by
  rintro σ H Q ⟨F, as, env, cs, ok, sl, h⟩
  refine ⟨F, as, env, cs, ok, sl, ?_⟩
  have h2 := out_bnd h
  cases q : mas env cs with
  | no =>
    rw [q] at h2
    exact h2
  | ex y cs2 =>
    rw [q] at h2
    exact h2
  | ok ds cs2 =>
    rw [q] at h2
    intro F1 H1 as1 g1 ok1 vs hvs
    have h3 : out X.K ct W σ.length F1 H1 as1 ((if noRL ds = true then (match f ds with
      | .ok (.lst xs) => mkL true xs
      | r => up r) else M.no) cs2) (oD X.K Q) := h2 F1 H1 as1 g1 ok1
    split at h3
    · rename_i nr
      cases q2 : f ds with
      | ok d =>
        cases d with
        | lst xs =>
          rw [q2] at h3
          refine ⟨F1, ds, ok_nil ok1, hvs.noR nr, hn env cs ds cs2 q, ?_⟩
          rw [q2]
          intro F2 H2 as2 g ok2 p ys hp fp hH hy
          have ea : as2 = [] := List.eq_nil_of_length_eq_zero ok2.len
          subst ea
          obtain ⟨g3, ok3⟩ := gro_nil ok1 g ok2
          have np : p ∉ as1 := ok1.out hp
          have g4 : Gro F1 H1 as1 F2 H2 (as1 ++ [p]) := ⟨g3.ff, g3.fn, g3.hh, g3.hl, List.prefix_append _ _, fun a m => (List.mem_append.mp m).elim .inl fun z => .inr (by rw [List.mem_singleton.mp z]; exact hp)⟩
          have ok4 : Ok X.K F2 H2 (as1 ++ [p]) (cs2 ++ [xs]) := by
            refine ⟨ok3.fh, List.nodup_append.mpr ⟨ok3.nd, List.nodup_cons.mpr ⟨List.not_mem_nil, List.nodup_nil⟩, fun a ha b hb e => np (by rw [← List.mem_singleton.mp hb, ← e]; exact ha)⟩, by rw [List.length_append, List.length_append, ok3.len]; rfl, fun i a zs ha hz => ?_⟩
            by_cases hi : i < as1.length
            · rw [List.getElem?_append_left hi] at ha
              rw [List.getElem?_append_left (by rw [← ok3.len]; exact hi)] at hz
              obtain ⟨w1, ws, w2, w3⟩ := ok3.cell i a zs ha hz
              exact ⟨w1, ws, w2, w3.mono (Ext.refl _) (List.prefix_append _ _)⟩
            · rw [List.getElem?_append_right (Nat.le_of_not_lt hi)] at ha
              rw [List.getElem?_append_right (by rw [← ok3.len]; exact Nat.le_of_not_lt hi), ← ok3.len] at hz
              have e0 : i - as1.length = 0 := by
                cases q : i - as1.length with
                | zero => rfl
                | succ n =>
                  rw [q] at ha
                  simp at ha
              rw [e0] at ha hz
              have ea : p = a := by simpa using ha
              have ez : xs = zs := by simpa using hz
              subst ea ez
              exact ⟨fp, ys, hH, hy.mono (Ext.refl _) List.nil_prefix⟩
          refine h3 F2 H2 (as1 ++ [p]) g4 ok4 _ (.ref ?_)
          rw [List.getElem?_append_right (by rw [ok1.len]; exact Nat.le_refl _), ok1.len, Nat.sub_self]
          rfl
        | _ =>
          rw [q2] at h3
          exact spP_of_O (callP_core (hn env cs ds cs2 q) ok1 hvs nr (by rw [q2]; exact h3))
      | ex y =>
        rw [q2] at h3
        exact spP_of_O (callP_core (hn env cs ds cs2 q) ok1 hvs nr (by rw [q2]; exact h3))
      | no =>
        rw [q2] at h3
        exact False.elim h3
    · exact False.elim h3)
theorem gc_P {f : List D → Rp} {j : Nat} (Fn : Dp' X.prog X.w X.K X.mg X.base j x ps (spP X.K ct n f)) (hr : Room k X.A) (hj : j ≤ k) (tk : Takes X W) (hg : Gl X x) (hn : ∀ env cs ds cs', mas env cs = .ok ds cs' → ds.length = n)
    (ha : PA X (e :: es) (tA X.K ct W mas)) (hdb : (x == ("__debug__" : Str)) = false := by decide) (he : starEach (e :: es) X.env = (false, eval e X.env) :: starEach es X.env := by rfl) (hpl : (backTo pos (starEach es X.env)).any (·.1) = false := by rfl) :
    PE X (.Call (.Name x p) (e :: es) [] pos) (tD X.K ct W (xCallP f mas)) := by
  obtain ⟨fa, fd, hm, hk, hb, Fn⟩ := Fn
  exact ge_callP Fn (hr.mono hj) tk hg hm hk hb hn ha hdb he hpl
theorem gc_O {f : List D → Rp} {j : Nat} (Fn : Dp' X.prog X.w X.K X.mg X.base j x ps (spO X.K ct n f)) (hr : Room k X.A) (hj : j ≤ k) (tk : Takes X W) (hg : Gl X x) (hn : ∀ env cs ds cs', mas env cs = .ok ds cs' → ds.length = n)
    (ha : PA X (e :: es) (tA X.K ct W mas)) (hdb : (x == ("__debug__" : Str)) = false := by decide) (he : starEach (e :: es) X.env = (false, eval e X.env) :: starEach es X.env := by rfl) (hpl : (backTo pos (starEach es X.env)).any (·.1) = false := by rfl) :
    PE X (.Call (.Name x p) (e :: es) [] pos) (tD X.K ct W (xCallO f mas)) := by
  obtain ⟨fa, fd, hm, hk, hb, Fn⟩ := Fn
  exact ge_callO Fn (hr.mono hj) tk hg hm hk hb hn ha hdb he hpl
theorem gc_M {f : List D → M D} {j : Nat} (Fn : Dp' X.prog X.w X.K X.mg X.base j x ps (spM X.K ct n f)) (hr : Room k X.A) (hj : j ≤ k) (tk : Takes X W) (hg : Gl X x) (hn : ∀ env cs ds cs', mas env cs = .ok ds cs' → ds.length = n)
    (ha : PA X (e :: es) (tA X.K ct W mas)) (hdb : (x == ("__debug__" : Str)) = false := by decide) (he : starEach (e :: es) X.env = (false, eval e X.env) :: starEach es X.env := by rfl) (hpl : (backTo pos (starEach es X.env)).any (·.1) = false := by rfl) :
    PE X (.Call (.Name x p) (e :: es) [] pos) (tD X.K ct W (xCallM f mas)) := by
  obtain ⟨fa, fd, hm, hk, hb, Fn⟩ := Fn
  exact ge_callM Fn (hr.mono hj) tk hg hm hk hb hn ha hdb he hpl
/-- a module's constants -/
theorem ge_gint {i : Int} {x : Str} (hm : ∃ t, X.mg x = some (.int i t)) (hg : Gl X x) (hd : (x == ("__debug__" : Str)) = false := by decide) : PE X (.Name x p) (tD X.K ct W (xC (.int i))) := by
  obtain ⟨t, hm⟩ := hm
  exact ge_c (pe_glob (v := .int i) hg hm ⟨t, rfl⟩ hd) fun _ _ => .int i
theorem ge_gstr {i : Str} {x : Str} (hm : ∃ t, X.mg x = some (.str i t)) (hg : Gl X x) (hd : (x == ("__debug__" : Str)) = false := by decide) : PE X (.Name x p) (tD X.K ct W (xC (.str i))) := by
  obtain ⟨t, hm⟩ := hm
  exact ge_c (pe_glob (v := .str i) hg hm ⟨t, rfl⟩ hd) fun _ _ => .str i
/-- how many arguments -/
theorem an_nil : ∀ env cs ds cs', aNil env cs = .ok ds cs' → ds.length = 0 := fun _ _ _ _ h => by
  cases h
  rfl
theorem an_cons {m : En → M D} {ms : En → M (List D)} {n : Nat} (h : ∀ env cs ds cs', ms env cs = .ok ds cs' → ds.length = n) : ∀ env cs ds cs', aCons m ms env cs = .ok ds cs' → ds.length = n + 1 := fun env cs ds cs' e => by
  unfold aCons M.bnd at e
  cases q : m env cs with
  | ok d cs1 =>
    rw [q] at e
    dsimp only at e
    cases q2 : ms env cs1 with
    | ok es cs2 =>
      rw [q2] at e
      cases e
      exact congrArg (· + 1) (h env cs1 es _ q2)
    | ex y cs2 =>
      rw [q2] at e
      cases e
    | no =>
      rw [q2] at e
      cases e
  | ex y cs2 =>
    rw [q] at e
    cases e
  | no =>
    rw [q] at e
    cases e
end
/-! ### refusals -/
def sRaise (x : Exn) : En → M Fl := fun _ => M.thr x
inductive X4 where
  | lines | thing | kind | nonet
def X4.e : X4 → Exn
  | .lines => .lines
  | .thing => .thing
  | .kind => .kind
  | .nonet => .nonet
def Ct.at4 (ct : Ct) : X4 → Addr
  | .lines => ct.lines
  | .thing => ct.thing
  | .kind => ct.kind
  | .nonet => ct.nonet
theorem xrel4 {ct : Ct} {H : Hp} (y : X4) : XRel ct H y.e (.ref (ct.at4 y)) none := by cases y <;> exact ⟨rfl, rfl⟩
theorem gs_raise4 {X : Cx} {ct : Ct} {W : WX} (y : X4) {x m : Str} {j : Nat} {p p2 p3 pos : Pos} (hc : X.calm = true) (tk : Takes X W) (q : PySem.W.excIn X.K (ct.at4 y) He.veBase "ValueError.__new__" = true) (gC : X.mg x = some (.ref (ct.at4 y))) (kC : PySem.W.keepIn X.K (.ref (ct.at4 y)) = true) (r : Raises X (.ref (ct.at4 y))) (hg : Gl X x)
    (hdb : (x == ("__debug__" : Str)) = false := by decide) : PS X (.Raise (some (.Call (.Name x p) [.Constant (.str m) j p2] [] p3)) none pos) (tS X.K ct W (sRaise y.e)) := PS.imp (ps_raise hc tk (pmk_own PySem.F.excBase_ValueError q gC kC r hg hdb)) (by
  rintro D σ H ⟨F, as, env, cs, ok, sl, h⟩
  exact h (.ref (ct.at4 y)) none σ F H as rfl (Gro.refl _ _ _) ok (xrel4 y))
end G
/-! G6: defs that give a list of own new lists. -/
namespace G
open L2 PySem PySem.Spec PyProof.Rows
inductive Rp2 where
  | ok (L : List (List D)) | ex (x : Exn) | no
def up2 : Rp2 → M (List (List D))
  | .ok L => fun _ => .ok L L
  | .ex x => M.thr x
  | .no => M.no
def asP (f : List D → Rp2) (ds : List D) : Rp := match f ds with
  | .ok L => if L.all noRL = true then .ok (.lst (L.map .lst)) else .no
  | .ex x => .ex x
  | .no => .no
/-- the cells that a list names -/
def refsOf : List D → Option (List Nat)
  | [] => some []
  | .ref i :: r => (refsOf r).map (i :: ·)
  | _ :: _ => none
def getAll (cs : Cs) : List Nat → Option (List (List D))
  | [] => some []
  | i :: r => match cs[i]?, getAll cs r with
    | some xs, some ys => if noRL xs = true then some (xs :: ys) else none
    | _, _ => none
def nodupB : List Nat → Bool
  | [] => true
  | i :: r => !r.contains i && nodupB r
def own2 (cs : Cs) (skip : List Nat) (xs : List D) : Rp2 := match refsOf xs with
  | some is => if (nodupB (skip ++ is)) = true then (match getAll cs is with
    | some L => .ok L
    | none => .no) else .no
  | none => .no
def runO2 (c : En → M Fl) (k : Nat) (ds : List D) : Rp2 := match c (startE k ds) [] with
  | .ok (.rt (.lst xs)) cs => own2 cs [] xs
  | .ok (.rt (.ref i)) cs => (match cs[i]? with
    | some xs => own2 cs [i] xs
    | none => .no)
  | .ex x _ => .ex x
  | _ => .no
def oO2 (Q : VK) : List (List D) → Cs → Hp → Hp → List Addr → Prop := fun _ _ F' H' as' => ∀ a, F' a = some (.lst (as'.map V.ref)) → Q (.ref a) H'
def spO2 (K : PySem.W.Frag) (ct : Ct) (n : Nat) (f : List D → Rp2) : Sp := fun vs H Q E => ∃ F ds, Ok K F H [] [] ∧ DvL K F [] vs ds ∧ ds.length = n ∧ out K ct (fun c d _ H => E c d H) 0 F H [] (up2 (f ds) []) (oO2 Q)
section
variable {P : Program} {w : World} {K : PySem.W.Frag} {mg : Str → Option Value} {base : Heap} {ct : Ct} {F H : Hp} {as : List Addr} {cs : Cs}
theorem nodupB_ok : ∀ {is : List Nat}, nodupB is = true → is.Nodup
  | [], _ => List.nodup_nil
  | i :: r, h => by
    obtain ⟨h1, h2⟩ := Bool.and_eq_true_iff.mp (show (!r.contains i && nodupB r) = true from h)
    exact List.nodup_cons.mpr ⟨fun m => by simp [m] at h1, nodupB_ok h2⟩
theorem refsOf_map : ∀ {xs : List D} {is : List Nat}, refsOf xs = some is → xs = is.map D.ref
  | [], is, e => by
    cases e
    rfl
  | .ref i :: r, is, e => by
    have e2 : (refsOf r).map (i :: ·) = some is := e
    cases q : refsOf r with
    | none =>
      rw [q] at e2
      cases e2
    | some s =>
      rw [q] at e2
      cases e2
      rw [refsOf_map q]
      rfl
  | .non :: _, _, e | .bl _ :: _, _, e | .int _ :: _, _, e | .str _ :: _, _, e | .lst _ :: _, _, e | .tup _ :: _, _, e | .dic :: _, _, e | .scr _ :: _, _, e => by cases e
/-- the places of cells -/
theorem places (ok : Ok K F H as cs) : ∀ {is : List Nat} {L : List (List D)} {vs : List V}, DvL K F as vs (is.map D.ref) → getAll cs is = some L →
    ∃ ps : List Addr, vs = ps.map V.ref ∧ ps.length = is.length ∧ L.length = is.length ∧ (∀ (j : Nat) (p : Addr), ps[j]? = some p → ∃ i : Nat, is[j]? = some i ∧ as[i]? = some p) ∧
      ∀ (j : Nat) (p : Addr) (xs : List D), ps[j]? = some p → L[j]? = some xs → ∃ i : Nat, is[j]? = some i ∧ as[i]? = some p ∧ cs[i]? = some xs ∧ noRL xs = true
  | [], L, _, h, e => by
    cases e
    cases h
    exact ⟨[], rfl, rfl, rfl, fun _ _ z => by simp at z, fun _ _ _ z => by simp at z⟩
  | i :: r, L, _, h, e => by
    have e2 : (match cs[i]?, getAll cs r with
      | some xs, some ys => if noRL xs = true then some (xs :: ys) else none
      | _, _ => none) = some L := e
    split at e2
    · rename_i xs ys e3 e4
      split at e2
      · rename_i nr
        cases e2
        cases h with
        | cons h1 h2 =>
          cases h1 with
          | ref ha =>
            obtain ⟨ps, rfl, l1, l2, h3, h4⟩ := places ok h2 e4
            refine ⟨_ :: ps, rfl, congrArg (· + 1) l1, congrArg (· + 1) l2, fun j p hp => ?_, fun j p zs hp hz => ?_⟩
            · cases j with
              | zero =>
                simp at hp
                subst hp
                exact ⟨i, rfl, ha⟩
              | succ j => exact h3 j p (by simpa using hp)
            · cases j with
              | zero =>
                simp at hp hz
                subst hp hz
                exact ⟨i, rfl, ha, e3, nr⟩
              | succ j => exact h4 j p zs (by simpa using hp) (by simpa using hz)
      · cases e2
    · cases e2
theorem keep_ok {F0 H0 : Hp} {is : List Nat} {L : List (List D)} {vs : List V} (ok : Ok K F H as cs) (g : Gro F0 H0 [] F H as) (hv : DvL K F as vs (is.map D.ref)) (hn : is.Nodup) (e : getAll cs is = some L) :
    ∃ ps : List Addr, vs = ps.map V.ref ∧ Gro F0 H0 [] F H ps ∧ Ok K F H ps L ∧ ∀ p ∈ ps, ∃ i ∈ is, as[i]? = some p := by
  obtain ⟨ps, e1, l1, l2, h3, h4⟩ := places ok hv e
  have mem : ∀ p ∈ ps, ∃ i ∈ is, as[i]? = some p := fun p hp => by
    obtain ⟨j, hj⟩ := List.mem_iff_getElem?.mp hp
    obtain ⟨i, hi, ha⟩ := h3 j p hj
    exact ⟨i, List.mem_of_getElem? hi, ha⟩
  refine ⟨ps, e1, ⟨g.ff, g.fn, g.hh, g.hl, List.nil_prefix, fun p hp => ?_⟩, ⟨ok.fh, ?_, by rw [l1, l2], fun j p xs hp hx => ?_⟩, mem⟩
  · obtain ⟨i, _, ha⟩ := mem p hp
    exact g.an p (List.mem_of_getElem? ha)
  · refine List.pairwise_iff_getElem.mpr fun a b ha hb hab => fun q => ?_
    obtain ⟨i, hi, ha1⟩ := h3 a _ (List.getElem?_eq_getElem ha)
    obtain ⟨j, hj, ha2⟩ := h3 b _ (List.getElem?_eq_getElem hb)
    have eij : i = j := by
      obtain ⟨z1, y1⟩ := List.getElem?_eq_some_iff.mp ha1
      obtain ⟨z2, y2⟩ := List.getElem?_eq_some_iff.mp ha2
      exact (List.getElem_inj ok.nd).mp (y1.trans (q.trans y2.symm))
    subst eij
    obtain ⟨z1, y1⟩ := List.getElem?_eq_some_iff.mp hi
    obtain ⟨z2, y2⟩ := List.getElem?_eq_some_iff.mp hj
    exact Nat.ne_of_lt hab ((List.getElem_inj hn).mp (y1.trans y2.symm))
  · obtain ⟨i, _, ha, hc, nr⟩ := h4 j p xs hp hx
    obtain ⟨w1, ys, w2, w3⟩ := ok.cell i p xs ha hc
    exact ⟨w1, ys, w2, (w3.noR nr).mono (Ext.refl _) List.nil_prefix⟩
theorem def_O2 {x : Str} {st : Stmt} {f : Addr} {fd : FuncData} {N ps : List Str} {k n : Nat} {c : En → M Fl} (F : FunG K x st f fd) (S : FnScope N ps (defScope st)) (hn : ps.length = n)
    (body : ∀ (cdv : Value) (A : Around) (outer : List Env) (s : Shared) (H : Hp) (E : XK), Room k (A.deeper (envOfC x (defScope st) s.heap.objs.size f cdv)) → PSs (cxG P w K mg base N x st f cdv A outer s H E) (defBody st) (tS K ct (fun c d _ H => E c d H) c)) :
    FnP P w K mg base (k + 1) f fd ps (spO2 K ct n (runO2 c N.length)) := by
  refine F.ok S (fun vs H Q E h => ?_) (fun cdv A outer s H vs Q E hr h => ⟨_, body cdv A outer s H E hr, ?_⟩)
  · obtain ⟨_, _, _, hv, hl, _⟩ := h
    rw [hv.length, hl, hn]
  · obtain ⟨F', ds, ok, hv, hl, h⟩ := h
    refine ⟨F', [], startE N.length ds, [], ok, start_of hv, ?_⟩
    unfold runO2 at h
    cases q : c (startE N.length ds) [] with
    | no =>
      rw [q] at h
      exact h
    | ex e cs =>
      rw [q] at h
      intro c' d σ' F1 H1 as1 _ g ok1 hx
      exact h c' d [] (frz F1 H1 as1) H1 [] rfl (gro_frz ok1 g) (ok_frz ok1) hx
    | ok fl cs =>
      rw [q] at h
      cases fl with
      | nx e => exact False.elim h
      | bk e => exact False.elim h
      | ct e => exact False.elim h
      | rt d =>
        intro F1 H1 as1 g ok1 v dv
        cases d with
        | lst xs =>
          have h2 : out K ct (fun c d _ H => E c d H) 0 F' H [] (up2 (own2 cs [] xs) []) (oO2 Q) := h
          unfold own2 at h2
          split at h2
          · rename_i is e1
            split at h2
            · rename_i nd
              split at h2
              · rename_i L e2
                cases dv with
                | lst hf hl =>
                  rw [refsOf_map e1] at hl
                  obtain ⟨ps2, rfl, g2, ok2, _⟩ := keep_ok ok1 g hl (nodupB_ok nd) e2
                  exact h2 F1 H1 ps2 g2 ok2 _ hf
              · exact False.elim h2
            · exact False.elim h2
          · exact False.elim h2
        | ref i =>
          have h2 : out K ct (fun c d _ H => E c d H) 0 F' H [] (up2 (match cs[i]? with
            | some xs => own2 cs [i] xs
            | none => .no) []) (oO2 Q) := h
          cases hc : cs[i]? with
          | none =>
            rw [hc] at h2
            exact False.elim h2
          | some xs =>
            rw [hc] at h2
            have h2 : out K ct (fun c d _ H => E c d H) 0 F' H [] (up2 (own2 cs [i] xs) []) (oO2 Q) := h2
            unfold own2 at h2
            split at h2
            · rename_i is e1
              split at h2
              · rename_i nd
                split at h2
                · rename_i L e2
                  cases dv with
                  | ref ha =>
                    rename_i a
                    obtain ⟨fn, ys, hH, hl⟩ := ok1.cell i _ xs ha hc
                    rw [refsOf_map e1] at hl
                    obtain ⟨hni, hnd⟩ := List.nodup_cons.mp (nodupB_ok nd)
                    obtain ⟨ps2, rfl, g2, ok2, hm⟩ := keep_ok ok1 g hl hnd e2
                    have nm : a ∉ ps2 := fun m => by
                      obtain ⟨j, hj, hb⟩ := hm a m
                      obtain ⟨z1, y1⟩ := List.getElem?_eq_some_iff.mp ha
                      obtain ⟨z2, y2⟩ := List.getElem?_eq_some_iff.mp hb
                      exact hni (by rw [(List.getElem_inj ok1.nd).mp (y1.trans y2.symm)]; exact hj)
                    have g3 : Gro F' H [] (upd F1 a (.lst (ps2.map V.ref))) H1 ps2 := ⟨g2.ff.trans (Ext.new fn), fun p hp => by
                      rw [upd_ne fun e => (g.an a (List.mem_of_getElem? ha)).elim (fun z => nomatch z) fun z => hp (by rw [e]; exact z)]
                      exact g2.fn p hp, g2.hh, g2.hl, g2.ap, g2.an⟩
                    have ok3 : Ok K (upd F1 a (.lst (ps2.map V.ref))) H1 ps2 L := ⟨fun b o e => by
                      by_cases q : b = a
                      · rw [q, upd_same] at e
                        cases e
                        rw [q]
                        exact hH
                      · rw [upd_ne q] at e
                        exact ok2.fh b o e, ok2.nd, ok2.len, fun j p zs hp hz => by
                        obtain ⟨w1, ws, w2, w3⟩ := ok2.cell j p zs hp hz
                        exact ⟨by rw [upd_ne fun e => nm (by rw [← e]; exact List.mem_of_getElem? hp)]; exact w1, ws, w2, w3.mono (Ext.new fn) List.prefix_rfl⟩⟩
                    exact h2 _ H1 ps2 g3 ok3 a upd_same
                · exact False.elim h2
              · exact False.elim h2
            · exact False.elim h2
        | _ => exact False.elim h
theorem up_lsts {as : List Addr} {L : List (List D)} (ok : Ok K F H as L) (hn : ∀ xs ∈ L, noRL xs = true) : DvL K (frz F H as) [] (as.map V.ref) (L.map D.lst) := by
  have gen : ∀ (ps : List Addr) (M : List (List D)), ps.length = M.length → (∀ (j : Nat) (p : Addr) (xs : List D), ps[j]? = some p → M[j]? = some xs → p ∈ as ∧ noRL xs = true ∧ ∃ ys, H p = some (.lst ys) ∧ DvL K F as ys xs) → DvL K (frz F H as) [] (ps.map V.ref) (M.map D.lst) := fun ps => by
    induction ps with
    | nil =>
      intro M e _
      cases M with
      | nil => exact .nil
      | cons _ _ => cases e
    | cons p r ih =>
      intro M e h
      cases M with
      | nil => cases e
      | cons xs M =>
        obtain ⟨h1, h2, ys, h3, h4⟩ := h 0 p xs rfl rfl
        refine .cons (.lst (by rw [frz_in h1]; exact h3) ((h4.noR h2).mono (ext_frz ok) List.prefix_rfl)) (ih M (by simpa using e) fun j q zs hq hz => h (j + 1) q zs (by simpa using hq) (by simpa using hz))
  refine gen as L ok.len fun j p xs hp hx => ?_
  obtain ⟨_, ys, w2, w3⟩ := ok.cell j p xs hp hx
  exact ⟨List.mem_of_getElem? hp, hn xs (List.mem_of_getElem? hx), ys, w2, w3⟩
theorem spP_of_O2 {n : Nat} {f : List D → Rp2} {vs : List V} {H : Hp} {Q : VK} {E : XK} (h : spP K ct n (asP f) vs H Q E) : spO2 K ct n f vs H Q E := by
  obtain ⟨F, ds, ok, hv, hl, h⟩ := h
  refine ⟨F, ds, ok, hv, hl, ?_⟩
  unfold asP at h
  cases q : f ds with
  | no =>
    rw [q] at h
    exact h
  | ex x =>
    rw [q] at h
    exact fun c d σ' F1 H1 as1 l g ok1 hx => by
      exact h c d σ' (frz F1 H1 as1) H1 [] l (gro_frz ok1 g) (ok_frz ok1) hx
  | ok L =>
    rw [q] at h
    intro F1 H1 as1 g ok1 a ha
    have h2 : out K ct (fun c d _ H => E c d H) 0 F H [] (up (if L.all noRL = true then Rp.ok (.lst (L.map .lst)) else .no) []) (oD K Q) := h
    by_cases nr : L.all noRL = true
    · rw [if_pos nr] at h2
      exact h2 (frz F1 H1 as1) H1 [] (gro_frz ok1 g) (ok_frz ok1) _ (.lst (ext_frz ok1 _ _ ha) (up_lsts ok1 (List.all_eq_true.mp nr)))
    · rw [if_neg nr] at h2
      exact False.elim h2
theorem Dp'.ofO2 {k n : Nat} {x : Str} {ps : List Str} {f : List D → Rp2} (h : Dp' P w K mg base k x ps (spO2 K ct n f)) : Dp' P w K mg base k x ps (spP K ct n (asP f)) := by
  obtain ⟨fa, fd, a, b, c, d⟩ := h
  exact ⟨fa, fd, a, b, c, d.imp fun _ _ _ _ => spP_of_O2⟩
end
/-- the new cells' names -/
def refsN (n m : Nat) : List D := (List.range m).map fun j => .ref (n + j)
def xCallO2 (f : List D → Rp2) (a : En → M (List D)) : En → M D := fun env => M.bnd (a env) fun ds cs => if noRL ds = true then (match f ds with
  | .ok L => if L.all noRL = true then .ok (.lst (refsN cs.length L.length)) (cs ++ L) else .no
  | .ex x => .ex x cs
  | .no => .no) else .no
section
variable {X : Cx} {ct : Ct} {W : WX} {k n : Nat} {fa : Addr} {fd : FuncData} {ps : List Str} {x : Str} {p pos : Pos} {e : Expr} {es : List Expr} {mas : En → M (List D)}
theorem refsN_dv {K : PySem.W.Frag} {F : Hp} {as : List Addr} {n : Nat} : ∀ (qs : List Addr), (∀ (j : Nat) (p : Addr), qs[j]? = some p → as[n + j]? = some p) → DvL K F as (qs.map V.ref) (refsN n qs.length) := fun qs h => by
  have gen : ∀ (rs : List Addr) (m : Nat), (∀ (j : Nat) (p : Addr), rs[j]? = some p → as[n + (m + j)]? = some p) → DvL K F as (rs.map V.ref) ((List.range' m rs.length).map fun j => D.ref (n + j)) := fun rs => by
    induction rs with
    | nil => exact fun m _ => .nil
    | cons r rs ih => exact fun m h => .cons (.ref (h 0 r rfl)) (ih (m + 1) fun j p hp => by
        have := h (j + 1) p (by simpa using hp)
        rw [← this]
        congr 1
        omega)
  unfold refsN
  rw [List.range_eq_range']
  exact gen qs 0 fun j p hp => by rw [Nat.zero_add]; exact h j p hp
theorem ok_join {K : PySem.W.Frag} {F H F' H' : Hp} {as ps : List Addr} {cs L : Cs} (ok : Ok K F H as cs) (g : Gro F H [] F' H' ps) (ok' : Ok K F' H' ps L) (hn : ∀ xs ∈ L, noRL xs = true) : Gro F H as F' H' (as ++ ps) ∧ Ok K F' H' (as ++ ps) (cs ++ L) := by
  have new : ∀ p ∈ ps, H p = none := fun p hp => (g.an p hp).elim (fun z => nomatch z) id
  refine ⟨⟨g.ff, g.fn, fun p o h _ => g.hh p o h (by simp), g.hl, List.prefix_append _ _, fun p m => (List.mem_append.mp m).elim .inl fun z => .inr (new p z)⟩, ⟨ok'.fh, ?_, by rw [List.length_append, List.length_append, ok.len, ok'.len], fun i a xs ha hx => ?_⟩⟩
  · exact List.nodup_append.mpr ⟨ok.nd, ok'.nd, fun a ha b hb e => ok.out (new b hb) (by rw [← e]; exact ha)⟩
  · by_cases hi : i < as.length
    · rw [List.getElem?_append_left hi] at ha
      rw [List.getElem?_append_left (by rw [← ok.len]; exact hi)] at hx
      obtain ⟨h1, ys, h2, h3⟩ := ok.cell i a xs ha hx
      exact ⟨by rw [g.fn a (by rw [h2]; exact fun z => nomatch z)]; exact h1, ys, g.hh a _ h2 (by simp), h3.mono g.ff (List.prefix_append _ _)⟩
    · rw [List.getElem?_append_right (Nat.le_of_not_lt hi)] at ha
      rw [List.getElem?_append_right (by rw [← ok.len]; exact Nat.le_of_not_lt hi), ← ok.len] at hx
      obtain ⟨h1, ys, h2, h3⟩ := ok'.cell _ a xs ha hx
      exact ⟨h1, ys, h2, (h3.noR (hn xs (List.mem_of_getElem? hx))).mono (Ext.refl _) List.nil_prefix⟩
theorem gc_O2 {f : List D → Rp2} {j : Nat} (Fn : Dp' X.prog X.w X.K X.mg X.base j x ps (spO2 X.K ct n f)) (hr : Room k X.A) (hj : j ≤ k) (tk : Takes X W) (hg : Gl X x) (hn : ∀ env cs ds cs', mas env cs = .ok ds cs' → ds.length = n)
    (ha : PA X (e :: es) (tA X.K ct W mas)) (hdb : (x == ("__debug__" : Str)) = false := by decide) (he : starEach (e :: es) X.env = (false, eval e X.env) :: starEach es X.env := by rfl) (hpl : (backTo pos (starEach es X.env)).any (·.1) = false := by rfl) :
    PE X (.Call (.Name x p) (e :: es) [] pos) (tD X.K ct W (xCallO2 f mas)) := by
  obtain ⟨fa, fd, hm, hk, hb, Fn⟩ := Fn
  refine PE.imp (pe_callS Fn (hr.mono hj) hg hm hk hb (fun σ => passAt tk σ) ha hdb he hpl) ?_
  rintro σ H Q ⟨F, as, env, cs, ok, sl, h⟩
  refine ⟨F, as, env, cs, ok, sl, ?_⟩
  have h2 := out_bnd h
  cases q : mas env cs with
  | no =>
    rw [q] at h2
    exact h2
  | ex y cs2 =>
    rw [q] at h2
    exact h2
  | ok ds cs2 =>
    rw [q] at h2
    intro F1 H1 as1 g1 ok1 vs hvs
    have h3 : out X.K ct W σ.length F1 H1 as1 (if noRL ds = true then (match f ds with
      | .ok L => if L.all noRL = true then .ok (.lst (refsN cs2.length L.length)) (cs2 ++ L) else .no
      | .ex x => .ex x cs2
      | .no => .no) else .no) (oD X.K Q) := h2 F1 H1 as1 g1 ok1
    split at h3
    · rename_i nr
      refine ⟨F1, ds, ok_nil ok1, hvs.noR nr, hn env cs ds cs2 q, ?_⟩
      cases q2 : f ds with
      | no =>
        rw [q2] at h3
        exact False.elim h3
      | ex y =>
        rw [q2] at h3
        intro c d σ' F2 H2 as2 _ g ok2 hx
        have ea : as2 = [] := List.eq_nil_of_length_eq_zero ok2.len
        subst ea
        obtain ⟨g3, ok3⟩ := gro_nil ok1 g ok2
        exact h3 c d σ F2 H2 as1 rfl g3 ok3 hx
      | ok L =>
        rw [q2] at h3
        dsimp only at h3
        split at h3
        · rename_i nl
          intro F2 H2 as2 g ok2 a ha
          obtain ⟨g3, ok3⟩ := ok_join ok1 g ok2 (List.all_eq_true.mp nl)
          refine h3 F2 H2 (as1 ++ as2) g3 ok3 _ (.lst ha ?_)
          have := refsN_dv (K := X.K) (F := F2) (as := as1 ++ as2) (n := cs2.length) as2 fun j p hp => by
            rw [List.getElem?_append_right (by rw [ok1.len]; omega), ok1.len, Nat.add_sub_cancel_left]
            exact hp
          rw [ok2.len] at this
          exact this
        · exact False.elim h3
    · exact False.elim h3
end
end G
namespace G
open L2 PySem PySem.Spec PyProof.Rows
theorem fn_no2 {P : Program} {w : World} {K : PySem.W.Frag} {mg : Str → Option Value} {base : Heap} {ct : Ct} {f : Addr} {fd : FuncData} {ps : List Str} {k n : Nat} (hn : ps.length = n) : FnP P w K mg base k f fd ps (spO2 K ct n fun _ => .no) := ⟨fun vs H Q E h => by
  obtain ⟨_, _, _, hv, hl, _⟩ := h
  rw [hv.length, hl, hn], fun _ _ _ _ _ _ _ _ _ _ _ _ _ h => by
  obtain ⟨_, _, _, _, _, h⟩ := h
  exact False.elim h⟩
end G
/-! G7: try, caught errors asked for their classes; the head's Hook with facts of classes. -/
namespace G
open L2 PySem PySem.Spec PyProof.Rows
/-! ### the classes -/
def X4.eqb : X4 → X4 → Bool
  | .lines, .lines | .thing, .thing | .kind, .kind | .nonet, .nonet => true
  | _, _ => false
structure Xt (K : PySem.W.Frag) (mg : Str → Option Value) (ct : Ct) (ne : Addr) : Prop where
  ex : ∀ y : X4, ExcC K (ct.at4 y)
  is4 : ∀ y z : X4, PySem.W.kitOne K (.ref (ct.at4 y)) (.ref (ct.at4 z)) = some (y.eqb z)
  isN : ∀ y : X4, PySem.W.kitOne K (.ref (ct.at4 y)) (.ref ct.net) = some false
  isV : ∀ y : X4, PySem.W.kitOne K (.ref (ct.at4 y)) (.type "ValueError") = some true
  em : ∀ y : X4, PySem.W.exmOne K (.ref (ct.at4 y)) (.ref ne) = some true
  mgE : mg "NetError" = some (.ref ne)
  mgN : mg "BadNet" = some (.ref ct.net)
  mgV : mg "ValueError" = none
def ctOf (K : PySem.W.Frag) : Ct := ⟨He.ga K "BadLines", He.ga K "BadThing", He.ga K "BadKind", He.ga K "NoNet", He.ga K "BadNet"⟩
def exCB (K : PySem.W.Frag) (D : Addr) : Bool := decide (PySem.W.findIn K (.ref D) "__getattribute__" = some (some (.builtin "BaseException.__getattribute__"))) && (decide (PySem.W.findIn K (.ref D) "__getattr__" = some none) &&
  (decide (PySem.W.subIn K (.ref D) (.type "BaseException") = some true) && (PySem.W.hasDictIn K D && (decide (PySem.W.findIn K (.ref D) "__class__" = some (some (.builtin "object.__class__"))) &&
  (decide (PySem.W.specialIn K (.builtin "object.__class__") "__get__" = some (some (.builtin "getset_descriptor.__get__"))) && (decide (PySem.W.takesIn K (.builtin "object.__class__") = some true) && decide (PySem.W.mroIn K D (.type "object") = some true)))))))
theorem exCB_ok {K : PySem.W.Frag} {D : Addr} (h : exCB K D = true) : ExcC K D := by
  obtain ⟨h1, h⟩ := He.ba h
  obtain ⟨h2, h⟩ := He.ba h
  obtain ⟨h3, h⟩ := He.ba h
  obtain ⟨h4, h⟩ := He.ba h
  obtain ⟨h5, h⟩ := He.ba h
  obtain ⟨h6, h⟩ := He.ba h
  obtain ⟨h7, h8⟩ := He.ba h
  exact ⟨of_decide_eq_true h1, of_decide_eq_true h2, of_decide_eq_true h3, h4, of_decide_eq_true h5, of_decide_eq_true h6, of_decide_eq_true h7, of_decide_eq_true h8⟩
def x4s : List X4 := [.lines, .thing, .kind, .nonet]
theorem x4s_all {p : X4 → Bool} (h : x4s.all p = true) (y : X4) : p y = true := by
  have := List.all_eq_true.mp h y
  cases y <;> exact this (by simp [x4s])
def xtY (K : PySem.W.Frag) (y : X4) : Bool :=
  let ct := ctOf K
  exCB K (ct.at4 y) && ((x4s.all fun z => decide (PySem.W.kitOne K (.ref (ct.at4 y)) (.ref (ct.at4 z)) = some (y.eqb z))) &&
    (decide (PySem.W.kitOne K (.ref (ct.at4 y)) (.ref ct.net) = some false) && (decide (PySem.W.kitOne K (.ref (ct.at4 y)) (.type "ValueError") = some true) && decide (PySem.W.exmOne K (.ref (ct.at4 y)) (.ref (He.ga K "NetError")) = some true))))
def xtB (K : PySem.W.Frag) : Bool := x4s.all (xtY K)
theorem xtB_ok {K : PySem.W.Frag} {h : Heap} {mg : Str → Option Value} (X : K.In h) (Gn : h.Ns mainGlobals mg) (c1 : (He.Fa.glo "NetError").ok K = true) (c2 : (He.Fa.glo "BadNet").ok K = true) (c3 : (He.Fa.free "ValueError").ok K = true) (h : xtB K = true) : Xt K mg (ctOf K) (He.ga K "NetError") := by
  have key : ∀ y, xtY K y = true := fun y => x4s_all h y
  refine ⟨fun y => ?_, fun y z => ?_, fun y => ?_, fun y => ?_, fun y => ?_, He.glo_ok X Gn c1, He.glo_ok X Gn c2, He.free_ok X Gn c3⟩
  · exact exCB_ok (He.ba (key y)).1
  · exact of_decide_eq_true (x4s_all (He.ba (He.ba (key y)).2).1 z)
  · exact of_decide_eq_true (He.ba (He.ba (He.ba (key y)).2).2).1
  · exact of_decide_eq_true (He.ba (He.ba (He.ba (He.ba (key y)).2).2).2).1
  · exact of_decide_eq_true (He.ba (He.ba (He.ba (He.ba (key y)).2).2).2).2
/-! ### the Hook with one more fact -/
abbrev AlX : Type := He.AlD × Bool
def obsX (fa : List He.Fa) (fn : List He.DefD) (ex : PySem.W.Frag → Bool) (K : PySem.W.Frag) : AlX := (He.obsD fa fn K, ex K)
def obsXG (n : Nat) (fa : List He.Fa) (fn : List He.DefD) (ex : PySem.W.Frag → Bool) (g : Addr → Option Obj) : AlX := obsX fa fn ex (He.frG g (He.asD g n))
def hookX (n : Nat) (fa : List He.Fa) (fn : List He.DefD) (ex : PySem.W.Frag → Bool) : PySem.W.Hook where
  α := AlX
  obs := fun s => obsXG n fa fn ex s.heap.get?
  val := fun _ => (He.valD fn, true)
  says := fun _ h => ∃ K : PySem.W.Frag, K.In h ∧ He.SaysD fa fn K ∧ ex K = true
  of := fun _ _ e => ⟨_, He.frG_in, congrArg (fun z : AlX => z.1) e, congrArg (fun z : AlX => z.2) e⟩
  keeps := fun _ _ _ ⟨K, hK, c⟩ k => ⟨K, PySem.W.Frag.In.keeps hK k, c⟩
theorem obsXG_eq {n : Nat} {fa : List He.Fa} {fn : List He.DefD} {ex : PySem.W.Frag → Bool} {g : Addr → Option Obj} {s : Shared} (h : ∀ a, g a = s.heap.get? a) : obsXG n fa fn ex g = (hookX n fa fn ex).obs s := by
  have e : g = s.heap.get? := funext h
  rw [e] <;> rfl
/-! ### asked in a suite -/
def tEb (i : Nat) (a : Addr) (b : Bool) : TE := fun σ H Q => σ[i]? = some (some (.ref a)) ∧ Q (.bl b) H
def tTb (i : Nat) (a : Addr) (b : Bool) : TT := fun σ H Q => σ[i]? = some (some (.ref a)) ∧ Q b H
def tSb (i : Nat) (a : Addr) (b : Bool) : TS := fun E σ H => σ[i]? = some (some (.ref a)) ∧ E.rt (.bl b) H
section
variable {X : Cx} {ct : Ct} {ne a D c : Addr} {oe : Obj} {pn : List (Addr × Obj)} {e : Expr} {x : Str} {p p2 pos : Pos} {i : Nat} {b b' : Bool}
theorem pe_isOwn (C : ExcC X.K D) (hz : Zc (.ref D) none oe) (hf : ∃ vs, oe.data = .fields vs) (hI : X.mg "isinstance" = none) (hm : X.mg x = some (.ref c)) (k : PySem.W.kitOne X.K (.ref D) (.ref c) = some b) (he : PE (X.suite a ((a, oe) :: pn)) e (tVar i))
    (hgI : Gl (X.suite a ((a, oe) :: pn)) "isinstance") (hg : Gl (X.suite a ((a, oe) :: pn)) x) (hd : (x == ("__debug__" : Str)) = false := by decide)
    (h1 : starEach [e, .Name x p2] X.env = (false, eval e X.env) :: starEach [.Name x p2] X.env := by rfl) (h2 : starEach [.Name x p2] X.env = (false, eval (.Name x p2) X.env) :: starEach [] X.env := by rfl) (hpl : (backTo pos (starEach [.Name x p2] X.env)).any (·.1) = false := by rfl) :
    PE (X.suite a ((a, oe) :: pn)) (.Call (.Name "isinstance" p) [e, .Name x p2] [] pos) (tEb i a b) := PE.imp (pe_callB (call_isE C hz hf) hgI hI (by decide +kernel) (pa_cons he (pa_cons (pe_glob (v := .ref c) hg hm rfl hd) pa_nil h2) h1) (by decide) (by decide) h1 hpl) (by
  rintro σ H Q ⟨h1, h2⟩
  exact ⟨_, h1, .ref c, .ref c, b, rfl, fun _ r => r, k, h2⟩)
theorem pe_isVal (C : ExcC X.K D) (hz : Zc (.ref D) none oe) (hf : ∃ vs, oe.data = .fields vs) (hI : X.mg "isinstance" = none) (hm : X.mg "ValueError" = none) (k : PySem.W.kitOne X.K (.ref D) (.type "ValueError") = some b) (he : PE (X.suite a ((a, oe) :: pn)) e (tVar i))
    (hgI : Gl (X.suite a ((a, oe) :: pn)) "isinstance") (hg : Gl (X.suite a ((a, oe) :: pn)) "ValueError")
    (h1 : starEach [e, .Name "ValueError" p2] X.env = (false, eval e X.env) :: starEach [.Name "ValueError" p2] X.env := by rfl) (h2 : starEach [.Name "ValueError" p2] X.env = (false, eval (.Name "ValueError" p2) X.env) :: starEach [] X.env := by rfl) (hpl : (backTo pos (starEach [.Name "ValueError" p2] X.env)).any (·.1) = false := by rfl) :
    PE (X.suite a ((a, oe) :: pn)) (.Call (.Name "isinstance" p) [e, .Name "ValueError" p2] [] pos) (tEb i a b) := PE.imp (pe_callB (call_isE C hz hf) hgI hI (by decide +kernel) (pa_cons he (pa_cons (pe_bltn (v := .ty "ValueError") hg hm (by decide +kernel) rfl) pa_nil h2) h1) (by decide) (by decide) h1 hpl) (by
  rintro σ H Q ⟨h1, h2⟩
  exact ⟨_, h1, .ty "ValueError", .type "ValueError", b, rfl, fun _ r => r, k, h2⟩)
variable {es : List Expr} {e2 : Expr}
theorem pt_b (h : PE X e (tEb i a b)) (he : ∀ whole, isTrue e X.env whole = (do let v ← whole; standAt e.pos; holding [v] (truthy v)) := by intro _; rfl) : PT X e (tTb i a b) := PT.imp (pt_val h he) (by
  rintro σ H Q ⟨h1, h2⟩
  exact ⟨h1, b, rfl, h2⟩)
theorem pw_orF1 (h : PT X e (tTb i a b)) : PW X (.BoolOp .Or [e] pos) (tTb i a b) := pw_or1 h
theorem pw_orF (h : PT X e (tTb i a false)) (h2 : PW X (.BoolOp .Or (e2 :: es) pos) (tTb i a b)) : PW X (.BoolOp .Or (e :: e2 :: es) pos) (tTb i a b) := PW.imp (pw_or h h2) (by
  rintro σ H Q ⟨h1, h2⟩
  exact ⟨h1, h1, h2⟩)
theorem pe_andT1 {op} (h : PE X e (tEb i a b)) : PE X (.BoolOp op [e] pos) (tEb i a b) := pe_one h
theorem pe_andT (h : PE X e (tEb i a true)) (h2 : PE X (.BoolOp .And (e2 :: es) pos) (tEb i a b)) : PE X (.BoolOp .And (e :: e2 :: es) pos) (tEb i a b) := PE.imp (pe_and h h2) (by
  rintro σ H Q ⟨h1, h2⟩
  exact ⟨h1, true, rfl, h1, h2⟩)
theorem pss_ifF {body : List Stmt} {rest : List Stmt} {u : TS} (h : PT X e (tTb i a false)) (hb : PSs X body u) (hr : PSs X rest (tSb i a b)) : PSs X (.If e body [] pos :: rest) (tSb i a b) := PSs.imp (pss_cons (ps_if h hb pss_nil) hr) (by
  rintro E σ H ⟨h1, h2⟩
  exact ⟨h1, h1, h2⟩)
theorem pss_retB (h : PE X e (tEb i a b)) : PSs X [.Return (some e) pos] (tSb i a b) := PSs.imp (pss_one (ps_ret h)) fun _ _ _ z => z
end
/-! ### try: body, except NetError as e: a truth -/
def sTryB (i : Nat) (body : En → M Fl) (g : X4 → Option Bool) : En → M Fl := fun env cs => if i < env.length then (match body env cs with
  | .ok f cs' => .ok f cs'
  | .ex .lines cs' => (match g .lines with
    | some b => .ok (.rt (.bl b)) cs'
    | none => .no)
  | .ex .thing cs' => (match g .thing with
    | some b => .ok (.rt (.bl b)) cs'
    | none => .no)
  | .ex .kind cs' => (match g .kind with
    | some b => .ok (.rt (.bl b)) cs'
    | none => .no)
  | .ex .nonet cs' => (match g .nonet with
    | some b => .ok (.rt (.bl b)) cs'
    | none => .no)
  | _ => .no) else .no
theorem sTryB4 (i : Nat) (body : En → M Fl) (g : X4 → Option Bool) (env : En) (cs cs' : Cs) (y : X4) (hi : i < env.length) (h : body env cs = .ex y.e cs') : sTryB i body g env cs = (match g y with
    | some b => .ok (.rt (.bl b)) cs'
    | none => .no) := by
  unfold sTryB
  rw [if_pos hi, h]
  cases y <;> rfl
theorem gs_tryB {X : Cx} {ct : Ct} {W : WX} {ne : Addr} {i : Nat} {n : Str} {mb : En → M Fl} {g : X4 → Option Bool} {body suite : List Stmt} {b₀ : Stmt} {np pos pos' : Pos} (T : Xt X.K X.mg ct ne) (hs : X.stack = X.env :: X.outer) (hf : X.env.frame = some X.env.locals) (hN : X.N.Nodup) (hi : X.N[i]? = some n) (hln : X.env.kindOf n = some .local) (hg : Gl X "NetError") (tk : Takes X W)
    (hb : ∀ (W : WX) (pn : List (Addr × Obj)) (xe : Value → Shared → Prop), Takes (X.tr pn xe) W → PassesOwn (model X.prog X.w) X.A X.env xe → PSs (X.tr pn xe) body (tS X.K ct W mb))
    (hsu : ∀ (y : X4) (b : Bool), g y = some b → ∀ (a : Addr) (oe : Obj) (pn : List (Addr × Obj)), Zc (.ref (ct.at4 y)) none oe → (∃ vs, oe.data = .fields vs) → PSs (X.suite a ((a, oe) :: pn)) (b₀ :: suite) (tSb i a b)) :
    PS X (.Try body [.ExceptHandler (some (.Name "NetError" np)) (some n) (b₀ :: suite) pos'] [] [] pos) (tS X.K ct W (sTryB i mb g)) := by
  refine PS.imp (ps_try_as (i := i) (c := .ref ne) (Wout := W) (ts := fun a cls d => fun E σ H => ∃ y b, g y = some b ∧ cls = .ref (ct.at4 y) ∧ d = none ∧ σ[i]? = some (some (.ref a)) ∧ E.rt (.bl b) H) hs hf hN hi hln ⟨hg, by decide, .inl T.mgE⟩ tk hb fun a oe cls d pn hz hfl => ?_) ?_
  · refine ⟨fun pins s σ H E I w => ?_⟩
    obtain ⟨y, b, hy, rfl, rfl, h1, h2⟩ := w
    exact (hsu y b hy a oe pn hz hfl).run pins s σ H E I ⟨h1, h2⟩
  · rintro E σ H ⟨F, as, env, cs, ok, sl, h⟩
    refine ⟨F, as, env, cs, ok, sl, ?_⟩
    by_cases hi0 : i < env.length
    case neg =>
      unfold sTryB at h
      rw [if_neg hi0] at h
      exact False.elim h
    cases q : mb env cs with
    | no =>
      unfold sTryB at h
      rw [if_pos hi0, q] at h
      exact h
    | ok f cs2 =>
      unfold sTryB at h
      rw [if_pos hi0, q] at h
      exact h
    | ex x cs2 =>
      intro c d σ' F1 H1 as1 hl g1 ok1 hx
      have main : ∀ y : X4, x = y.e → wAs X.K (.ref ne) i (fun a cls d => fun E σ H => ∃ y b, g y = some b ∧ cls = .ref (ct.at4 y) ∧ d = none ∧ σ[i]? = some (some (.ref a)) ∧ E.rt (.bl b) H) W E c d σ' H1 := fun y hy => by
        subst hy
        rw [sTryB4 i mb g env cs cs2 y hi0 q] at h
        have ec : c = .ref (ct.at4 y) ∧ d = none := by cases y <;> exact hx
        obtain ⟨rfl, rfl⟩ := ec
        refine ⟨true, T.em y, fun _ a _ => ?_, fun z => nomatch z⟩
        cases q2 : g y with
        | none =>
          rw [q2] at h
          exact False.elim h
        | some b =>
          rw [q2] at h
          have hi' : i < σ'.length := by
            rw [hl, sl.len]
            exact hi0
          exact ⟨y, b, q2, rfl, rfl, by rw [List.getElem?_set_self hi'], h F1 H1 as1 g1 ok1 _ (.bl b)⟩
      cases x with
      | lines => exact main .lines rfl
      | thing => exact main .thing rfl
      | kind => exact main .kind rfl
      | nonet => exact main .nonet rfl
      | net o =>
        unfold sTryB at h
        rw [if_pos hi0, q] at h
        exact False.elim h
end G
namespace G
open L2 PySem PySem.Spec PyProof.Rows
/-- a law that says True of every script -/
theorem law_ends {K : PySem.W.Frag} {ct : Ct} {H : Hp} {a : Addr} {ns : List Int} {f : List D → Rp} (hS : SqL K H a (ns.map V.int)) (h : f [.scr ns] = .ok (.bl true)) : spP K ct 1 f [.ref a] H (fun v _ => v = .bl true) fun _ _ _ => False := by
  refine ⟨H, [.scr ns], ⟨Ext.refl H, List.nodup_nil, rfl, fun i a xs h _ => by simp at h⟩, .cons (.scr hS) .nil, rfl, ?_⟩
  rw [h]
  intro F' H' as' _ _ v hv
  cases hv
  rfl
end G
namespace G
open L2 PySem PySem.Spec PyProof.Rows
/-- the end of a law whose defs let own errors out -/
theorem walk_own {l : PySem.W.OpenLaw} {n k : Nat} {q : Program} {loose : List Str} {XP : (Str → Option Value) → Heap → Prop} {YP : World → Heap → Prop} {d : DefRec} {x : Str}
    (hn : l.most = some n) (hn2 : n ≤ sizeLine) (hdf : d.params.defaults = []) (hr : Room k callerA)
    (F : ∀ (w : World) (mg : Str → Option Value) (fa : Addr) (h : Heap), YP w h → h.Ns mainGlobals mg → mg d.name = some (.ref fa) →
      ∃ (K : PySem.W.Frag) (fd : FuncData) (ct : Ct) (f : List D → Rp), K.In h ∧ (∀ (s : Shared) (u : Value), BindsTo s fd ⟨[u], []⟩ [(x, u)]) ∧
        (∀ ns : List Int, ns.length ≤ n → f [.scr ns] = .ok (.bl true)) ∧
        ∀ base : Heap, K.In base → base.Ns mainGlobals mg → FnP l.prog w K mg base k fa fd [x] (spP K ct 1 f)) :
    PySem.W.WalkO q loose XP YP l.row.toRowW d [] (fun f vs => PySem.call f vs) := by
  refine Att.attach_call hn hdf fun w s₀ s₁ mg mb fa o pm cd doc a vs ns Gs Y ho hd hcd hmg hobj hints hlen hg => ?_
  obtain ⟨K, fd, ct, f, KX, hb, hf, hF⟩ := F w mg fa _ Y Gs.T.g hmg
  refine law_call KX Gs.T.g Gs.T.b Gs.T.builtins Gs.T.nolimit hg hobj hints (Nat.le_trans hlen hn2) hr hF hb (fun H _ hS => law_ends hS (hf ns hlen)) fun H e s' z => ?_
  obtain ⟨a, B, H', cls, d, _, _, _, _, _, _, _, z⟩ := z
  exact z
end G
/-! G8: plain: loops by invariants, data of nets. -/
namespace G
open L2 PySem PySem.Spec PyProof.Rows
/-! ### loops -/
theorem seq_nx {a b : En → M Fl} {env e : En} {cs cs1 : Cs} (h : a env cs = .ok (.nx e) cs1) : sSeq a b env cs = b e cs1 := by
  show M.bnd (a env) _ cs = _
  rw [M.bnd_ok h]
theorem asg_nm {m : En → M D} {i : Nat} {env : En} {cs cs1 : Cs} {d : D} (h : m env cs = .ok d cs1) : sAsg m (.nm i) env cs = .ok (.nx (env.set i (some d))) cs1 := by
  show M.bnd (m env) _ cs = _
  rw [M.bnd_ok h]
  rfl
theorem drop_nx {m : En → M D} {env : En} {cs cs1 : Cs} {d : D} (h : m env cs = .ok d cs1) : sDrop m env cs = .ok (.nx env) cs1 := by
  show M.bnd (m env) _ cs = _
  rw [M.bnd_ok h]
  rfl
theorem ret_rt {m : En → M D} {env : En} {cs cs1 : Cs} {d : D} (h : m env cs = .ok d cs1) : sRet m env cs = .ok (.rt d) cs1 := by
  show M.bnd (m env) _ cs = _
  rw [M.bnd_ok h]
  rfl
theorem if_f {t : En → M Bool} {a b : En → M Fl} {env : En} {cs cs1 : Cs} (h : t env cs = .ok false cs1) : sIf t a b env cs = b env cs1 := by
  show M.bnd (t env) _ cs = _
  rw [M.bnd_ok h]
  rfl
theorem if_t {t : En → M Bool} {a b : En → M Fl} {env : En} {cs cs1 : Cs} (h : t env cs = .ok true cs1) : sIf t a b env cs = a env cs1 := by
  show M.bnd (t env) _ cs = _
  rw [M.bnd_ok h]
  rfl
theorem val_b {m : En → M D} {env : En} {cs cs1 : Cs} {k : Bool} (h : m env cs = .ok (.bl k) cs1) : bVal m env cs = .ok k cs1 := by
  show M.bnd (m env) _ cs = _
  rw [M.bnd_ok h]
  rfl
theorem not_b {t : En → M Bool} {env : En} {cs cs1 : Cs} {k : Bool} (h : t env cs = .ok k cs1) : bNot t env cs = .ok (!k) cs1 := by
  show M.bnd (t env) _ cs = _
  rw [M.bnd_ok h]
  rfl
theorem or_f {a b : En → M Bool} {env : En} {cs cs1 : Cs} (h : a env cs = .ok false cs1) : bOr a b env cs = b env cs1 := by
  show M.bnd (a env) _ cs = _
  rw [M.bnd_ok h]
  rfl
theorem or_t {a b : En → M Bool} {env : En} {cs cs1 : Cs} (h : a env cs = .ok true cs1) : bOr a b env cs = .ok true cs1 := by
  show M.bnd (a env) _ cs = _
  rw [M.bnd_ok h]
  rfl
theorem and_t {a b : En → M Bool} {env : En} {cs cs1 : Cs} (h : a env cs = .ok true cs1) : bAnd a b env cs = b env cs1 := by
  show M.bnd (a env) _ cs = _
  rw [M.bnd_ok h]
  rfl
theorem and_f {a b : En → M Bool} {env : En} {cs cs1 : Cs} (h : a env cs = .ok false cs1) : bAnd a b env cs = .ok false cs1 := by
  show M.bnd (a env) _ cs = _
  rw [M.bnd_ok h]
  rfl
theorem var_at {i : Nat} {env : En} {cs : Cs} {d : D} (h : env[i]? = some (some d)) : xVar i env cs = .ok d cs := by
  unfold xVar
  rw [h]
  rfl
theorem bin_ok {f : D → D → M D} {a b : En → M D} {env : En} {cs cs1 cs2 : Cs} {x y : D} (h : a env cs = .ok x cs1) (h2 : b env cs1 = .ok y cs2) : xBin f a b env cs = f x y cs2 := by
  show M.bnd (a env) _ cs = _
  rw [M.bnd_ok h, M.bnd_ok h2]
theorem un_ok {f : D → M D} {a : En → M D} {env : En} {cs cs1 : Cs} {x : D} (h : a env cs = .ok x cs1) : xUn f a env cs = f x cs1 := by
  show M.bnd (a env) _ cs = _
  rw [M.bnd_ok h]
theorem cons_ok {a : En → M D} {r : En → M (List D)} {env : En} {cs cs1 cs2 : Cs} {x : D} {xs : List D} (h : a env cs = .ok x cs1) (h2 : r env cs1 = .ok xs cs2) : aCons a r env cs = .ok (x :: xs) cs2 := by
  show M.bnd (a env) _ cs = _
  rw [M.bnd_ok h, M.bnd_ok h2]
  rfl
theorem callP_ok {f : List D → Rp} {a : En → M (List D)} {env : En} {cs cs1 : Cs} {xs : List D} {d : D} (h : a env cs = .ok xs cs1) (hn : noRL xs = true) (hf : f xs = .ok d) : xCallP f a env cs = .ok d cs1 := by
  show M.bnd (a env) _ cs = _
  rw [M.bnd_ok h]
  show (if noRL xs = true then up (f xs) else M.no) cs1 = _
  rw [if_pos hn, hf]
  rfl
theorem callO2_ok {f : List D → Rp2} {a : En → M (List D)} {env : En} {cs cs1 : Cs} {xs : List D} {L : List (List D)} (h : a env cs = .ok xs cs1) (hn : noRL xs = true) (hf : f xs = .ok L) (hL : L.all noRL = true) : xCallO2 f a env cs = .ok (.lst (refsN cs1.length L.length)) (cs1 ++ L) := by
  show M.bnd (a env) _ cs = _
  rw [M.bnd_ok h]
  show (if noRL xs = true then (match f xs with
    | .ok L => if L.all noRL = true then .ok (.lst (refsN cs1.length L.length)) (cs1 ++ L) else .no
    | .ex x => .ex x cs1
    | .no => .no) else (.no : Rs D)) = _
  rw [if_pos hn, hf]
  show (if L.all noRL = true then _ else _) = _
  rw [if_pos hL]
theorem call_ok {g : List D → M D} {a : En → M (List D)} {env : En} {cs cs1 : Cs} {xs : List D} (h : a env cs = .ok xs cs1) : xCall g a env cs = g xs cs1 := by
  show M.bnd (a env) _ cs = _
  rw [M.bnd_ok h]
/-- a for loop that runs through -/
theorem forGo_inv {live : Cs → Bool} {t : Tg} {b : En → M Fl} (I : Nat → En → Cs → Prop) {xs : List D}
    (hl : ∀ i env cs, I i env cs → live cs = true)
    (hs : ∀ i x env cs, xs[i]? = some x → I i env cs → ∃ env1, tgS t x env = some env1 ∧ ∃ e' cs', b env1 cs = .ok (.nx e') cs' ∧ I (i + 1) e' cs') :
    ∀ {env : En} {cs : Cs}, I 0 env cs → ∃ e' cs', forGo live t b xs env cs = .ok (.nx e') cs' ∧ I xs.length e' cs' := by
  have gen : ∀ (ys : List D) (k : Nat), xs.drop k = ys → k ≤ xs.length → ∀ {env : En} {cs : Cs}, I k env cs → ∃ e' cs', forGo live t b ys env cs = .ok (.nx e') cs' ∧ I xs.length e' cs' := fun ys => by
    induction ys with
    | nil =>
      intro k e hk env cs h
      have ek := drop_nil e hk
      refine ⟨env, cs, ?_, by rw [← ek]; exact h⟩
      show guardM live _ cs = _
      unfold guardM
      rw [if_pos (hl _ _ _ h)]
      rfl
    | cons y ys ih =>
      intro k e hk env cs h
      obtain ⟨hx, hr, hlt⟩ := getElem_drop e
      obtain ⟨env1, h1, e', cs', h2, h3⟩ := hs k y env cs hx h
      obtain ⟨e2, cs2, h4, h5⟩ := ih (k + 1) hr hlt h3
      refine ⟨e2, cs2, ?_, h5⟩
      show guardM live (match tgS t y env with
        | some env1 => M.bnd (b env1) _
        | none => M.no) cs = _
      unfold guardM
      rw [if_pos (hl _ _ _ h), h1]
      show M.bnd (b env1) _ cs = _
      rw [M.bnd_ok h2]
      exact h4
  exact fun {env cs} h => gen xs 0 rfl (Nat.zero_le _) h
theorem for_inv {it : En → M It0} {t : Tg} {b : En → M Fl} {xs : List D} {live : Cs → Bool} {env : En} {cs cs1 : Cs} (I : Nat → En → Cs → Prop) (hi : it env cs = .ok ⟨xs, live⟩ cs1)
    (hl : ∀ i env cs, I i env cs → live cs = true)
    (hs : ∀ i x env cs, xs[i]? = some x → I i env cs → ∃ env1, tgS t x env = some env1 ∧ ∃ e' cs', b env1 cs = .ok (.nx e') cs' ∧ I (i + 1) e' cs') (h0 : I 0 env cs1) :
    ∃ e' cs', sFor it t b env cs = .ok (.nx e') cs' ∧ I xs.length e' cs' := by
  obtain ⟨e', cs', h1, h2⟩ := forGo_inv (t := t) (b := b) I hl hs h0
  refine ⟨e', cs', ?_, h2⟩
  show M.bnd (it env) _ cs = _
  rw [M.bnd_ok hi]
  exact h1
/-- a comprehension without a test whose items are reckoned one by one -/
theorem lcGo_map {live : Cs → Bool} {t : Tg} {te : En → M D} {env : En} {cs : Cs} (g : D → D) (hl : live cs = true) : ∀ {xs : List D}, (∀ x ∈ xs, ∃ env1, tgS t x env = some env1 ∧ te env1 cs = .ok (g x) cs) → lcGo live t bYes te env xs cs = .ok (xs.map g) cs
  | [], _ => by
    show guardM live _ cs = _
    unfold guardM
    rw [if_pos hl]
    rfl
  | x :: r, h => by
    obtain ⟨env1, h1, h2⟩ := h x List.mem_cons_self
    show guardM live (match tgS t x env with
      | some env1 => _
      | none => M.no) cs = _
    unfold guardM
    rw [if_pos hl, h1]
    show M.bnd (te env1) _ cs = _
    rw [M.bnd_ok h2, M.bnd_ok (lcGo_map g hl fun y hy => h y (List.mem_cons_of_mem _ hy))]
    rfl
theorem lc_map {c : Bool} {it : En → M It0} {own : List Nat} {t : Tg} {te : En → M D} {env : En} {cs cs1 : Cs} {xs : List D} {live : Cs → Bool} (g : D → D) (hi : it env cs = .ok ⟨xs, live⟩ cs1) (hl : live cs1 = true) (hz : szOk xs.length = true)
    (h : ∀ x ∈ xs, ∃ env1, tgS t x (wip env own) = some env1 ∧ te env1 cs1 = .ok (g x) cs1) : xLcN c it own t bYes te env cs = mkL c (xs.map g) cs1 := by
  show M.bnd (it env) _ cs = _
  rw [M.bnd_ok hi]
  show (if szOk xs.length = true then M.bnd (noX (lcGo live t bYes te (wip env own) xs)) _ else M.no) cs1 = _
  rw [if_pos hz]
  have e : noX (lcGo live t bYes te (wip env own) xs) cs1 = .ok (xs.map g) cs1 := by
    unfold noX
    rw [lcGo_map g hl h]
  rw [M.bnd_ok e]
/-! ### nets -/
abbrev Net := List (List (Int × Int))
def layD (xs : List (Int × Int)) : List D := xs.map pairD
def netD (N : Net) : D := .lst (N.map fun xs => .lst (layD xs))
def pyP (p : Int × Int) : PyData := .tuple [.int p.1, .int p.2]
def pyL (xs : List (Int × Int)) : PyData := .list (xs.map pyP)
def pyNet (N : Net) : PyData := .list (N.map pyL)
theorem pyGL_lay {r : Nat → Option PyData} : ∀ xs : List (Int × Int), pyGL r (layD xs) = some (xs.map pyP)
  | [] => rfl
  | p :: xs => by
    show (match pyG r (pairD p), pyGL r (layD xs) with
      | some p, some ps => some (p :: ps)
      | _, _ => none) = _
    rw [pyGL_lay xs]
    rfl
theorem pyGL_net {r : Nat → Option PyData} : ∀ N : Net, pyGL r (N.map fun xs => .lst (layD xs)) = some (N.map pyL)
  | [] => rfl
  | xs :: N => by
    show (match (pyGL r (layD xs)).map PyData.list, pyGL r (N.map fun xs => .lst (layD xs)) with
      | some p, some ps => some (p :: ps)
      | _, _ => none) = _
    rw [pyGL_net N, pyGL_lay xs]
    rfl
theorem py_net (cs : Cs) (N : Net) : py cs (netD N) = some (pyNet N) := by
  show (pyGL _ (N.map fun xs => .lst (layD xs))).map PyData.list = _
  rw [pyGL_net]
  rfl
theorem py_lay (cs : Cs) (xs : List (Int × Int)) : py cs (.lst (layD xs)) = some (pyL xs) := by
  show (pyGL _ (layD xs)).map PyData.list = _
  rw [pyGL_lay]
  rfl
theorem py_cell {cs : Cs} {i : Nat} {xs : List (Int × Int)} (h : cs[i]? = some (layD xs)) : py cs (.ref i) = some (pyL xs) := by
  show (match cs[i]? with
    | some xs => (pyGL (pyN cs 2) xs).map PyData.list
    | none => none) = _
  rw [h]
  show (pyGL (pyN cs 2) (layD xs)).map PyData.list = _
  rw [pyGL_lay]
  rfl
theorem pyGL_cells {cs : Cs} : ∀ (N : Net) (is : List Nat), is.length = N.length → (∀ (j i : Nat) (xs : List (Int × Int)), is[j]? = some i → N[j]? = some xs → cs[i]? = some (layD xs)) → pyGL (pyN cs 3) (is.map D.ref) = some (N.map pyL)
  | [], [], _, _ => rfl
  | xs :: N, i :: is, hl, h => by
    have h1 := py_cell (h 0 i xs rfl rfl)
    show (match py cs (.ref i), pyGL (pyN cs 3) (is.map D.ref) with
      | some p, some ps => some (p :: ps)
      | _, _ => none) = _
    rw [h1, pyGL_cells N is (by simpa using hl) fun j k ys hj hy => h (j + 1) k ys (by simpa using hj) (by simpa using hy)]
    rfl
  | [], _ :: _, hl, _ => by cases hl
  | _ :: _, [], hl, _ => by cases hl
theorem py_cells {cs : Cs} {N : Net} {is : List Nat} (hl : is.length = N.length) (h : ∀ (j i : Nat) (xs : List (Int × Int)), is[j]? = some i → N[j]? = some xs → cs[i]? = some (layD xs)) : py cs (.lst (is.map D.ref)) = some (pyNet N) := by
  show (pyGL (pyN cs 3) (is.map D.ref)).map PyData.list = _
  rw [pyGL_cells N is hl h]
  rfl
theorem lay_pyP : ∀ xs : List (Int × Int), PyData.canLayAll0 (xs.map pyP) = true ∧ PyData.depthAll (xs.map pyP) ≤ 1
  | [] => ⟨rfl, by simp [PyData.depthAll]⟩
  | p :: xs => by
    obtain ⟨h1, h2⟩ := lay_pyP xs
    constructor
    · simp [PyData.canLayAll0, PyData.canLay0, pyP, h1]
    · simp [PyData.depthAll, PyData.depth, pyP]
      omega
theorem lay_pyL : ∀ N : Net, PyData.canLayAll0 (N.map pyL) = true ∧ PyData.depthAll (N.map pyL) ≤ 2
  | [] => ⟨rfl, by simp [PyData.depthAll]⟩
  | xs :: N => by
    obtain ⟨h1, h2⟩ := lay_pyL N
    obtain ⟨h3, h4⟩ := lay_pyP xs
    constructor
    · simp [PyData.canLayAll0, PyData.canLay0, pyL, h1, h3]
    · simp [PyData.depthAll, PyData.depth, pyL]
      omega
theorem shaped_pyL (xs : List (Int × Int)) : SeqAt.shaped (pyL xs) = true := by
  obtain ⟨h1, h2⟩ := lay_pyP xs
  simp [SeqAt.shaped, pyL, PyData.canLay0, PyData.depth, h1]
  omega
theorem shaped_pyNet (N : Net) : SeqAt.shaped (pyNet N) = true := by
  obtain ⟨h1, h2⟩ := lay_pyL N
  simp [SeqAt.shaped, pyNet, PyData.canLay0, PyData.depth, h1]
  omega
theorem eqvAll_pyP : ∀ xs ys : List (Int × Int), PyData.eqvAll (xs.map pyP) (ys.map pyP) = decide (xs = ys)
  | [], [] => by simp [PyData.eqvAll]
  | [], _ :: _ => by simp [PyData.eqvAll]
  | _ :: _, [] => by simp [PyData.eqvAll]
  | p :: xs, q :: ys => by
    obtain ⟨p1, p2⟩ := p
    obtain ⟨q1, q2⟩ := q
    simp only [List.map_cons, PyData.eqvAll, eqvAll_pyP xs ys, pyP, PyData.eqv]
    by_cases h1 : p1 = q1 <;> by_cases h2 : p2 = q2 <;> by_cases h3 : xs = ys <;> simp [h1, h2, h3]
theorem eqv_pyL (xs ys : List (Int × Int)) : PyData.eqv (pyL xs) (pyL ys) = decide (xs = ys) := by
  unfold pyL
  rw [PyData.eqv]
  exact eqvAll_pyP xs ys
theorem eqvAll_pyL : ∀ N M : Net, PyData.eqvAll (N.map pyL) (M.map pyL) = decide (N = M)
  | [], [] => by simp [PyData.eqvAll]
  | [], _ :: _ => by simp [PyData.eqvAll]
  | _ :: _, [] => by simp [PyData.eqvAll]
  | xs :: N, ys :: M => by
    rw [List.map_cons, List.map_cons, PyData.eqvAll, eqvAll_pyL N M, eqv_pyL]
    by_cases h1 : xs = ys <;> by_cases h2 : N = M <;> simp [h1, h2]
theorem eqv_pyNet (N M : Net) : PyData.eqv (pyNet N) (pyNet M) = decide (N = M) := by
  unfold pyNet
  rw [PyData.eqv]
  exact eqvAll_pyL N M
theorem eq_net {b : Bool} {cs : Cs} {d e : D} {N M : Net} (h1 : py cs d = some (pyNet N)) (h2 : py cs e = some (pyNet M)) : opEq b d e cs = .ok (.bl (if b = true then decide (N = M) else !decide (N = M))) cs := by
  unfold opEq
  rw [h1, h2]
  show (if (SeqAt.shaped (pyNet N) && SeqAt.shaped (pyNet M)) = true then _ else _) = _
  rw [shaped_pyNet, shaped_pyNet, if_pos (show (true && true) = true from rfl), eqv_pyNet]
theorem eq_lay {b : Bool} {cs : Cs} {d e : D} {N M : List (Int × Int)} (h1 : py cs d = some (pyL N)) (h2 : py cs e = some (pyL M)) : opEq b d e cs = .ok (.bl (if b = true then decide (N = M) else !decide (N = M))) cs := by
  unfold opEq
  rw [h1, h2]
  show (if (SeqAt.shaped (pyL N) && SeqAt.shaped (pyL M)) = true then _ else _) = _
  rw [shaped_pyL, shaped_pyL, if_pos (show (true && true) = true from rfl), eqv_pyL]
theorem noR_lay : ∀ xs : List (Int × Int), noRL (layD xs) = true
  | [] => rfl
  | p :: xs => by
    show (noR (pairD p) && noRL (layD xs)) = true
    rw [noR_lay xs]
    rfl
theorem all_noR (N : Net) : (N.map layD).all noRL = true := by
  rw [List.all_eq_true]
  intro x hx
  obtain ⟨xs, _, rfl⟩ := List.mem_map.mp hx
  exact noR_lay xs
theorem eqDL_refl_lay : ∀ xs : List (Int × Int), eqDL (layD xs) (layD xs) = true
  | [] => rfl
  | p :: xs => by
    show (eqD (pairD p) (pairD p) && eqDL (layD xs) (layD xs)) = true
    rw [eqDL_refl_lay xs]
    show (((p.1 == p.1) && ((p.2 == p.2) && true)) && true) = true
    simp
/-- from a checked list of lists to a net -/
def toNet : List (List D) → Option Net
  | [] => some []
  | xs :: r => match pairsOf xs, toNet r with
    | some p, some q => some (p :: q)
    | _, _ => none
theorem toNet_eq : ∀ {L : List (List D)} {N : Net}, toNet L = some N → L = N.map layD
  | [], N, e => by
    cases e
    rfl
  | xs :: r, N, e => by
    have e2 : (match pairsOf xs, toNet r with
      | some p, some q => some (p :: q)
      | _, _ => none) = some N := e
    split at e2
    · rename_i p q e3 e4
      cases e2
      rw [pairsOf_map e3, toNet_eq e4]
      rfl
    · cases e2
def isT : Rp → Bool
  | .ok (.bl true) => true
  | _ => false
theorem isT_eq {r : Rp} (h : isT r = true) : r = .ok (.bl true) := by
  unfold isT at h
  split at h
  · rfl
  · cases h
end G
namespace G
open L2 PySem PySem.Spec PyProof.Rows
theorem seq_rt {a b : En → M Fl} {env : En} {cs cs1 : Cs} {d : D} (h : a env cs = .ok (.rt d) cs1) : sSeq a b env cs = .ok (.rt d) cs1 := by
  show M.bnd (a env) _ cs = _
  rw [M.bnd_ok h]
  rfl
theorem runP_rt {c : En → M Fl} {k : Nat} {ds : List D} {d p : D} {cs : Cs} (h : c (startE k ds) [] = .ok (.rt d) cs) (hr : res cs d = some p) : runP c k ds = .ok p := by
  unfold runP
  rw [h]
  show (match res cs d with
    | some p => Rp.ok p
    | none => Rp.no) = _
  rw [hr]
theorem runP_nx {c : En → M Fl} {k : Nat} {ds : List D} {e : En} {cs : Cs} (h : c (startE k ds) [] = .ok (.nx e) cs) : runP c k ds = .ok .non := by
  unfold runP
  rw [h]
theorem runP_ex {c : En → M Fl} {k : Nat} {ds : List D} {x : Exn} {cs : Cs} (h : c (startE k ds) [] = .ex x cs) : runP c k ds = .ex x := by
  unfold runP
  rw [h]
theorem atI_map_int (ns : List Int) (k : Nat) (h : k < ns.length) : atI (ns.map D.int) (k : Int) = some (.int ns[k]) := by
  unfold atI ixN
  rw [List.length_map, if_pos (by omega), if_pos (by omega)]
  simp [h]
theorem guard_ok {live : Cs → Bool} {α : Type} {m : M α} {cs : Cs} (h : live cs = true) : guardM live m cs = m cs := by
  unfold guardM
  rw [if_pos h]
end G
namespace G
open L2 PySem PySem.Spec PyProof.Rows
theorem blsOf_map {α : Type} (g : α → Bool) : ∀ xs : List α, blsOf (xs.map fun x => D.bl (g x)) = some (xs.map g)
  | [] => rfl
  | x :: xs => by
    show (blsOf (xs.map fun x => D.bl (g x))).map (g x :: ·) = _
    rw [blsOf_map g xs]
    rfl
/-- all([.. for p in layer]) over a cell's pairs, each item true -/
theorem all_true {te : En → M D} {env : En} {cs : Cs} {j s i : Nat} {xs : List (Int × Int)} (he : env[j]? = some (some (.ref i))) (hc : cs[i]? = some (layD xs)) (hz : xs.length ≤ 1000000)
    (h : ∀ p ∈ xs, te ((wip env [s]).set s (some (pairD p))) cs = .ok (.bl true) cs) : xCall opAll (aCons (xLcN false (itSeq (xVar j)) [s] (.nm s) bYes te) aNil) env cs = .ok (.bl true) cs := by
  have hi : itSeq (xVar j) env cs = .ok ⟨layD xs, liveOf (layD xs) (.ref i)⟩ cs := by
    show M.bnd (xVar j env) _ cs = _
    rw [M.bnd_ok (var_at he)]
    show (match cs[i]? with
      | some xs => Rs.ok (It0.mk xs (liveOf xs (.ref i))) cs
      | none => .no) = _
    rw [hc]
  have hl : liveOf (layD xs) (.ref i) cs = true := by
    show (match cs[i]? with
      | some ys => eqDL ys (layD xs)
      | none => false) = true
    rw [hc]
    exact eqDL_refl_lay xs
  have e : xLcN false (itSeq (xVar j)) [s] (.nm s) bYes te env cs = .ok (.lst ((layD xs).map fun _ => D.bl true)) cs := by
    rw [lc_map (fun _ => D.bl true) hi hl (by unfold layD szOk; rw [List.length_map]; exact decide_eq_true hz) fun x hx => ?_]
    · rfl
    · obtain ⟨p, hp, rfl⟩ := List.mem_map.mp hx
      exact ⟨_, rfl, h p hp⟩
  rw [call_ok (cons_ok e rfl)]
  show (match (some ((layD xs).map fun _ => D.bl true)).bind blsOf with
    | some bs => Rs.ok (D.bl (bs.all id)) cs
    | none => .no) = _
  rw [Option.bind_some, blsOf_map (fun _ => true)]
  have : ((layD xs).map fun _ => true).all id = true := by
    rw [List.all_eq_true]
    intro b hb
    obtain ⟨_, _, rfl⟩ := List.mem_map.mp hb
    rfl
  show Rs.ok (D.bl (((layD xs).map fun _ => true).all id)) cs = _
  rw [this]
end G
namespace G
open L2 PySem PySem.Spec PyProof.Rows
theorem app_ok {o v : En → M D} {env : En} {cs cs1 cs2 : Cs} {i : Nat} {y : D} {xs : List D} (h : o env cs = .ok (.ref i) cs1) (h2 : v env cs1 = .ok y cs2) (hc : cs2[i]? = some xs) (hz : xs.length ≤ 1000000) : xApp o v env cs = .ok .non (cs2.set i (xs ++ [y])) := by
  show M.bnd (o env) _ cs = _
  rw [M.bnd_ok h]
  show M.bnd (v env) _ cs1 = _
  rw [M.bnd_ok h2]
  unfold cApp
  rw [hc]
  show (if szOk xs.length = true then _ else _) = _
  rw [if_pos (show szOk xs.length = true from decide_eq_true hz)]
theorem itSeq_ok {m : En → M D} {env : En} {cs cs1 : Cs} {d : D} {xs : List D} (h : m env cs = .ok d cs1) (hs : seqOf cs1 d = some xs) : itSeq m env cs = .ok ⟨xs, liveOf xs d⟩ cs1 := by
  show M.bnd (m env) _ cs = _
  rw [M.bnd_ok h]
  show (match seqOf cs1 d with
    | some xs => Rs.ok (It0.mk xs (liveOf xs d)) cs1
    | none => .no) = _
  rw [hs]
theorem itZip_ok {m m' : En → M D} {env : En} {cs cs1 cs2 : Cs} {d e : D} {xs ys : List D} (h : m env cs = .ok d cs1) (h2 : m' env cs1 = .ok e cs2) (hs : seqOf cs2 d = some xs) (hs2 : seqOf cs2 e = some ys) :
    itZip m m' env cs = .ok ⟨(xs.zip ys).map fun p => .tup [p.1, p.2], fun cs' => liveOf xs d cs' && liveOf ys e cs'⟩ cs2 := by
  show M.bnd (m env) _ cs = _
  rw [M.bnd_ok h]
  show M.bnd (m' env) _ cs1 = _
  rw [M.bnd_ok h2]
  show (match seqOf cs2 d, seqOf cs2 e with
    | some xs, some ys => Rs.ok (It0.mk ((xs.zip ys).map fun (p : D × D) => .tup [p.1, p.2]) fun cs' => liveOf xs d cs' && liveOf ys e cs') cs2
    | _, _ => .no) = _
  rw [hs, hs2]
theorem refsN_get {n m j : Nat} {x : D} (h : (refsN n m)[j]? = some x) : j < m ∧ x = .ref (n + j) := by
  unfold refsN at h
  rw [List.getElem?_map] at h
  by_cases hj : j < m
  · rw [List.getElem?_range hj] at h
    exact ⟨hj, (Option.some.inj h).symm⟩
  · rw [List.getElem?_eq_none (by rw [List.length_range]; omega)] at h
    cases h
theorem refsN_eq (n m : Nat) : refsN n m = ((List.range m).map (n + ·)).map D.ref := by
  unfold refsN
  rw [List.map_map]
  rfl
theorem asP_ok {f : List D → Rp2} {ds : List D} {N : Net} (h : f ds = .ok (N.map layD)) : asP f ds = .ok (netD N) := by
  unfold asP
  rw [h]
  show (if (N.map layD).all noRL = true then _ else _) = _
  rw [if_pos (all_noR N), List.map_map]
  rfl
end G
/-! G9: a def that is told a caught error. -/
namespace G
open L2 PySem PySem.Spec PyProof.Rows
/-! ### xs.count(y), flat items -/
def rCntF (K : PySem.W.Frag) : V → List V → Hp → VK → Prop := fun x xs H Q => ∃ (a : Addr) (ys : List V) (y : V), x = .ref a ∧ xs = [y] ∧ SqL K H a ys ∧ flatV y = true ∧ ys.all flatV = true ∧ Q (.int (ys.countP fun z => eqV z y : Nat)) H
theorem countF_vals {y : V} : ∀ {ys : List V} {us : List Value}, Vals ys us → ys.all flatV = true → us.countP (eqU y) = ys.countP fun z => eqV z y
  | _, _, .nil, _ => rfl
  | z :: ys, u :: us, .cons r t, f => by
    obtain ⟨f1, f2⟩ := Bool.and_eq_true_iff.mp (show (flatV z && ys.all flatV) = true from f)
    rw [List.countP_cons, List.countP_cons, countF_vals t f2, eqU_of r f1]
theorem mt_countF {X : Cx} : MtR X "list.count" (rCntF X.K) := fun pins s σ H x xs v us Q I rx rxs h => by
  obtain ⟨a, ys, y, rfl, rfl, hs, fy, fys, q⟩ := h
  cases rx
  obtain ⟨u, rfl, ry⟩ := rxs.one
  obtain ⟨its, rv, ⟨⟨cls, dd, data, sl⟩, n, ho, hc, hdn, hd⟩, _⟩ := I.list hs
  simp only at hc hd
  subst hc hd
  refine call_meets PySem.F.slot_list_count ⟨_, ho, rfl⟩ PySem.F.entry_list_count (PySem.F.args_list_count_2 _ _) (SeqAt.list_countAt a its.toArray n dd sl u (eqU y)) ⟨ho, fun w hw => mem_eqAt ry fy rv fys w (by simpa using hw), ?_⟩
  refine ⟨.int (ys.countP fun z => eqV z y : Nat), H, I.tok _, ⟨s.toks, ?_⟩, q⟩
  rw [show its.toArray.toList.countP (eqU y) = ys.countP fun z => eqV z y from countF_vals rv fys]
/-! ### isinstance of a pinned error -/
theorem call_isX {X : Cx} {p : Addr × Obj} {D : Addr} (C : ExcC X.K D) (hp : p ∈ X.pn) (hz : Zc (.ref D) none p.2) (hf : ∃ vs, p.2.data = .fields vs) : CallR X (.builtin "isinstance") (rIsE X.K D p.1) := fun pins s σ H xs us Q I r h => by
  obtain ⟨c, cv, b, rfl, hcv, e, q⟩ := h
  obtain ⟨x1, x2, rfl, r1, r2⟩ := vals2 r
  cases r1
  cases hcv _ r2
  obtain ⟨vs, hv⟩ := hf
  obtain ⟨z1, z2⟩ := hz
  have J : PySem.W.InstAt s.heap p.1 p.2 D none := ⟨(I.pin p (List.mem_append_left _ hp)).1, z1, by unfold PySem.W.notCls; rw [hv] <;> rfl, by rw [z2]; trivial⟩
  exact PySem.W.kia_one (PySem.W.handS_kitx_exc C.hg C.hk C.hs C.hd C.ha C.hn C.ht C.hm) I.kIn J e (fun z => nomatch z) fun tk => ⟨.bl b, H, I.kept (t' := tk) fun _ _ z => z, rfl, q⟩
section
variable {X : Cx} {ct : Ct} {D c : Addr} {pn : Addr × Obj} {e : Expr} {x : Str} {p p2 pos : Pos} {i : Nat} {b : Bool}
theorem pe_xOwn (C : ExcC X.K D) (hp : pn ∈ X.pn) (hz : Zc (.ref D) none pn.2) (hf : ∃ vs, pn.2.data = .fields vs) (hI : X.mg "isinstance" = none) (hm : X.mg x = some (.ref c)) (k : PySem.W.kitOne X.K (.ref D) (.ref c) = some b) (he : PE X e (tVar i)) (hgI : Gl X "isinstance") (hg : Gl X x) (hd : (x == ("__debug__" : Str)) = false := by decide)
    (h1 : starEach [e, .Name x p2] X.env = (false, eval e X.env) :: starEach [.Name x p2] X.env := by rfl) (h2 : starEach [.Name x p2] X.env = (false, eval (.Name x p2) X.env) :: starEach [] X.env := by rfl) (hpl : (backTo pos (starEach [.Name x p2] X.env)).any (·.1) = false := by rfl) :
    PE X (.Call (.Name "isinstance" p) [e, .Name x p2] [] pos) (tEb i pn.1 b) := PE.imp (pe_callB (call_isX C hp hz hf) hgI hI (by decide +kernel) (pa_cons he (pa_cons (pe_glob (v := .ref c) hg hm rfl hd) pa_nil h2) h1) (by decide) (by decide) h1 hpl) fun σ H Q h => ⟨_, h.1, .ref c, .ref c, b, rfl, fun _ r => r, k, h.2⟩
theorem pe_xVal (C : ExcC X.K D) (hp : pn ∈ X.pn) (hz : Zc (.ref D) none pn.2) (hf : ∃ vs, pn.2.data = .fields vs) (hI : X.mg "isinstance" = none) (hm : X.mg "ValueError" = none) (k : PySem.W.kitOne X.K (.ref D) (.type "ValueError") = some b) (he : PE X e (tVar i)) (hgI : Gl X "isinstance") (hg : Gl X "ValueError")
    (h1 : starEach [e, .Name "ValueError" p2] X.env = (false, eval e X.env) :: starEach [.Name "ValueError" p2] X.env := by rfl) (h2 : starEach [.Name "ValueError" p2] X.env = (false, eval (.Name "ValueError" p2) X.env) :: starEach [] X.env := by rfl) (hpl : (backTo pos (starEach [.Name "ValueError" p2] X.env)).any (·.1) = false := by rfl) :
    PE X (.Call (.Name "isinstance" p) [e, .Name "ValueError" p2] [] pos) (tEb i pn.1 b) := PE.imp (pe_callB (call_isX C hp hz hf) hgI hI (by decide +kernel) (pa_cons he (pa_cons (pe_bltn (v := .ty "ValueError") hg hm (by decide +kernel) rfl) pa_nil h2) h1) (by decide) (by decide) h1 hpl) fun σ H Q h => ⟨_, h.1, .ty "ValueError", .type "ValueError", b, rfl, fun _ r => r, k, h.2⟩
end
/-! ### such a def -/
abbrev SpE := Addr × Obj → List V → Hp → VK → Prop
structure FnE (P : Program) (w : World) (K : PySem.W.Frag) (mg : Str → Option Value) (base : Heap) (k : Nat) (f : Addr) (fd : FuncData) (ps : List Str) (sp : SpE) : Prop where
  run : ∀ (A : Around) (outer : List Env) (s : Shared) (H : Hp) (args : Args) (us : List Value) (vs : List V) (Q : VK) (p : Addr × Obj), L2H.RoomH k A → L2H.PinOk outer H s p → Env0 P w K mg base A outer s H → BindsTo s fd args (ps.zip us) → Vals vs us → vs.length = ps.length → sp p vs H Q →
    codeAny (model P w) A (.call (.ref f) args) (CR L2.CX0 outer P w H s Q L2.E0) s
abbrev cxE (P : Program) (w : World) (K : PySem.W.Frag) (mg : Str → Option Value) (base : Heap) (N : List Str) (x : Str) (st : Stmt) (f : Addr) (cdv : Value) (A : Around) (outer : List Env) (s : Shared) (H : Hp) (p : Addr × Obj) : Cx := L2H.cxH L2.CX0 P w K mg base N x (defScope st) f cdv A outer s H L2.E0 p
theorem def_E {P : Program} {w : World} {K : PySem.W.Frag} {mg : Str → Option Value} {base : Heap} {x : Str} {st : Stmt} {f : Addr} {fd : FuncData} {N ps : List Str} {k : Nat} {sp : SpE} (F : FunG K x st f fd) (S : FnScope N ps (defScope st))
    (body : ∀ (cdv : Value) (A : Around) (outer : List Env) (s : Shared) (H : Hp) (vs : List V) (Q : VK) (p : Addr × Obj), sp p vs H Q → ∃ t, PSs (cxE P w K mg base N x st f cdv A outer s H p) (defBody st) t ∧ t { nx := fun _ H' => Q .non H', rt := Q } (L2.start N vs) H) : FnE P w K mg base (k + 1) f fd ps sp := by
  obtain ⟨oc, od, dV, kV, doc, pm, an, cdv, ctx, osl, rfl, lk, hcd, _, _⟩ := F.ex
  refine ⟨fun A outer s H args us vs Q p hr hpin e0 hb r hl hsp => ?_⟩
  have sub : ∀ b o, base.get? b = some o → s.heap.get? b = some o := fun b o e => (e0.bs b o e).1
  refine codeAny_call_function hr.depth (e0.mod.kin.keeps sub _ _ lk) rfl S.co S.gen rfl (PySem.W.codeRec_of (e0.mod.kin.keeps sub) hcd) (hb _ _ _ _ (wpAny_newFunctionEnv_cells S.kind (fun y hy => ?_) fun env he s1 z => ?_))
  · rcases S.par y.1 (List.of_mem_zip (a := y.1) (b := y.2) hy).1 with q | q
    · exact .inl q
    · exact .inr ⟨q, PySem.W.cellsFrom_some _ _ _ (.inl q)⟩
  · subst he
    obtain ⟨t, ht, hq⟩ := body cdv A outer s H vs Q p hsp
    refine ⟨(e0.mod.nolimit.keeps sub).keeps z.toInCall.keep, codeAny_func (wpAny_mono (ht.run [] s1 (L2.start N vs) H _ (L2H.inv_startH S hpin e0 hl r z) hq) (fun fl s' hs => ?_) fun e s' hs => hs)⟩
    cases fl with
    | ret u =>
      obtain ⟨v, σ', H', J, rv, q⟩ := hs
      exact ⟨v, H', J.os, J.bare, J.base, J.hok, rv, q⟩
    | next =>
      obtain ⟨σ', H', J, q⟩ := hs
      exact ⟨.non, H', J.os, J.bare, J.base, J.hok, rfl, q⟩
    | brk =>
      obtain ⟨_, _, _, q⟩ := hs
      exact q.elim
    | cont =>
      obtain ⟨_, _, _, q⟩ := hs
      exact q.elim
/-- the call, in a suite -/
theorem pe_callE {X : Cx} {k : Nat} {f : Addr} {fd : FuncData} {ps : List Str} {sp : SpE} {x : Str} {q pos : Pos} {e : Expr} {es : List Expr} {t : TA} {p : Addr × Obj} (F : FnE X.prog X.w X.K X.mg X.base k f fd ps sp) (hp : p ∈ X.pn) (hr : L2H.RoomH k X.A) (hg : Gl X x) (hm : X.mg x = some (.ref f)) (hk : PySem.W.keepIn X.K (.ref f) = true) (hb : Binds X.K fd ps [])
    (ha : PA X (e :: es) t) (hdb : (x == ("__debug__" : Str)) = false := by decide) (he : starEach (e :: es) X.env = (false, eval e X.env) :: starEach es X.env := by rfl) (hpl : (backTo pos (starEach es X.env)).any (·.1) = false := by rfl) :
    PE X (.Call (.Name x q) (e :: es) [] pos) (fun σ H Q => t σ H fun vs H1 => vs.length = ps.length ∧ sp p vs H1 Q) := by
  refine ⟨fun pins s σ H Q I h => wpAny_Call_Name_kw (ld_glob I hg hm (PySem.W.callWith_K (h₀ := X.base) I.ok.mod.kin hk (thn (ha.run pos pins s σ H _ I h) fun us s1 ⟨vs, H1, I1, r, hl, w⟩ => ⟨I1.kIn, ?_⟩) he hpl) hdb)⟩
  have P1 := I1.pin p (List.mem_append_left _ hp)
  have b := hb s1 us I1.kIn (by rw [List.append_nil, ← r.length]; exact hl)
  rw [List.append_nil] at b
  refine wpAny_call (codeAny_mono (F.run X.A X.stack s1 H1 ⟨us, []⟩ us vs Q p hr ⟨P1.1, P1.2.1, fun hm => (List.mem_cons.mp (I1.stkSub p.1 hm)).elim P1.2.2.1 P1.2.2.2.1, P1.2.2.2.2⟩ I1.env0 b r hl w) fun r s' hq => ?_)
  cases r with
  | error e => exact hq.elim
  | ok fl =>
    cases fl with
    | ret u => exact I1.after hq
    | next => exact hq.elim
    | brk => exact hq.elim
    | cont => exact hq.elim
end G
namespace G
open L2 PySem PySem.Spec PyProof.Rows
/-! ### the law's word for an error -/
def X4.word : X4 → Str
  | .lines => PySem.Str.ofString "lines"
  | .thing => PySem.Str.ofString "thing"
  | .kind => PySem.Str.ofString "kind"
  | .nonet => PySem.Str.ofString "none"
def spW (K : PySem.W.Frag) (ct : Ct) : SpE := fun p vs H Q => ∃ y : X4, vs = [.ref p.1] ∧ Zc (.ref (ct.at4 y)) none p.2 ∧ (∃ fs, p.2.data = .fields fs) ∧ ∀ l H', H l = none → Ext H H' → H' l = some (.lst [.str y.word]) → Q (.ref l) H'
def DpE (P : Program) (w : World) (K : PySem.W.Frag) (mg : Str → Option Value) (base : Heap) (ct : Ct) (k : Nat) : Prop := ∃ fa fd, mg "_law_word" = some (.ref fa) ∧ PySem.W.keepIn K (.ref fa) = true ∧ L2.Binds K fd ["_law_e"] [] ∧ FnE P w K mg base k fa fd ["_law_e"] (spW K ct)
def wordD : Exn → Option D
  | .lines => some (.lst [.str (PySem.Str.ofString "lines")])
  | .thing => some (.lst [.str (PySem.Str.ofString "thing")])
  | .kind => some (.lst [.str (PySem.Str.ofString "kind")])
  | .nonet => some (.lst [.str (PySem.Str.ofString "none")])
  | .net _ => none
theorem wordD4 (y : X4) : wordD y.e = some (.lst [.str y.word]) := by cases y <;> rfl
/-- try: body, except NetError as e: return _law_word(e) -/
def sTryW (i : Nat) (body : En → M Fl) : En → M Fl := fun env cs => if i < env.length then (match body env cs with
  | .ok f cs' => .ok f cs'
  | .ex x cs' => (match wordD x with
    | some d => .ok (.rt d) cs'
    | none => .no)
  | .no => .no) else .no
theorem gs_tryW {X : Cx} {ct : Ct} {W : WX} {ne : Addr} {i k j : Nat} {n : Str} {mb : En → M Fl} {body : List Stmt} {np pos pos' p1 p2 p3 p4 : Pos} (T : Xt X.K X.mg ct ne) (hs : X.stack = X.env :: X.outer) (hf : X.env.frame = some X.env.locals) (hN : X.N.Nodup) (hi : X.N[i]? = some n) (hln : X.env.kindOf n = some .local) (hg : Gl X "NetError") (tk : Takes X W)
    (hr : Room k X.A) (hj : j ≤ k) (Wd : DpE X.prog X.w X.K X.mg X.base ct j) (hgw : Gl X "_law_word") (hv : ∀ (a : Addr) (pn : List (Addr × Obj)), PE (X.suite a pn) (.Name n p3) (tVar i)) (hst : starEach [.Name n p3] X.env = (false, eval (.Name n p3) X.env) :: starEach [] X.env)
    (hb : ∀ (W : WX) (pn : List (Addr × Obj)) (xe : Value → Shared → Prop), Takes (X.tr pn xe) W → PassesOwn (model X.prog X.w) X.A X.env xe → PSs (X.tr pn xe) body (tS X.K ct W mb)) :
    PS X (.Try body [.ExceptHandler (some (.Name "NetError" np)) (some n) [.Return (some (.Call (.Name "_law_word" p1) [.Name n p3] [] p4)) p2] pos'] [] [] pos) (tS X.K ct W (sTryW i mb)) := by
  obtain ⟨fa, fd, hm, hk, hbd, Fn⟩ := Wd
  refine PS.imp (ps_try_as (i := i) (c := .ref ne) (Wout := W) (ts := fun a cls d => fun E σ H => ∃ y : X4, cls = .ref (ct.at4 y) ∧ d = none ∧ σ[i]? = some (some (.ref a)) ∧ ∀ l H', H l = none → Ext H H' → H' l = some (.lst [.str y.word]) → E.rt (.ref l) H') hs hf hN hi hln ⟨hg, by decide, .inl T.mgE⟩ tk hb fun a oe cls d pn hz hfl => ?_) ?_
  · refine PSs.imp (pss_one (ps_ret (pe_callE (p := (a, oe)) (ps := ["_law_e"]) (X := X.suite a ((a, oe) :: pn)) Fn List.mem_cons_self ⟨(hr.mono hj).dp, (hr.mono hj).un⟩ hgw hm hk hbd (pa_cons (hv a _) pa_nil hst) (by decide) hst rfl))) ?_
    rintro E σ H ⟨y, rfl, rfl, h1, h2⟩
    exact ⟨_, h1, rfl, y, rfl, hz, hfl, h2⟩
  · rintro E σ H ⟨F, as, env, cs, ok, sl, h⟩
    refine ⟨F, as, env, cs, ok, sl, ?_⟩
    unfold sTryW at h
    split at h
    · rename_i hi0
      cases q : mb env cs with
      | no =>
        rw [q] at h
        exact h
      | ok f cs2 =>
        rw [q] at h
        exact h
      | ex x cs2 =>
        rw [q] at h
        intro c d σ' F1 H1 as1 hl g1 ok1 hx
        have main : ∀ y : X4, x = y.e → wAs X.K (.ref ne) i (fun a cls d => fun E σ H => ∃ y : X4, cls = .ref (ct.at4 y) ∧ d = none ∧ σ[i]? = some (some (.ref a)) ∧ ∀ l H', H l = none → Ext H H' → H' l = some (.lst [.str y.word]) → E.rt (.ref l) H') W E c d σ' H1 := fun y hy => by
          subst hy
          have ec : c = .ref (ct.at4 y) ∧ d = none := by cases y <;> exact hx
          obtain ⟨rfl, rfl⟩ := ec
          refine ⟨true, T.em y, fun _ a _ => ?_, fun z => nomatch z⟩
          have h3 : out X.K ct W σ.length F H as (match wordD y.e with
            | some d => Rs.ok (Fl.rt d) cs2
            | none => .no) (oS X.K σ.length E) := h
          rw [wordD4] at h3
          refine ⟨y, rfl, rfl, by rw [List.getElem?_set_self (by rw [hl, sl.len]; exact hi0)], fun l H' hn he hH => ?_⟩
          have g2 : Gro F1 H1 as1 (upd F1 l (.lst [.str y.word])) H' as1 := ⟨Ext.new (ok1.fnone hn), fun q hq => upd_ne fun e => hq (by rw [e]; exact hn), fun q o hq _ => he q o hq, fun q hq => by
            cases q2 : H1 q with
            | none => exact absurd q2 hq
            | some o =>
              rw [he q o q2]
              exact (fun z => nomatch z), List.prefix_rfl, fun _ m => .inl m⟩
          have ok2 : Ok X.K (upd F1 l (.lst [.str y.word])) H' as1 cs2 := ⟨fun b o e => by
            by_cases q : b = l
            · rw [q, upd_same] at e
              cases e
              rw [q]
              exact hH
            · rw [upd_ne q] at e
              exact he b o (ok1.fh b o e), ok1.nd, ok1.len, fun j a xs ha hxs => by
              obtain ⟨w1, ys, w2, w3⟩ := ok1.cell j a xs ha hxs
              exact ⟨by rw [upd_ne fun e => ok1.out hn (by rw [← e]; exact List.mem_of_getElem? ha)]; exact w1, ys, he a _ w2, w3.mono (Ext.new (ok1.fnone hn)) List.prefix_rfl⟩⟩
          exact h3 _ H' as1 (g1.trans g2) ok2 _ (.lst upd_same (.cons (.str _) .nil))
        cases x with
        | lines => exact main .lines rfl
        | thing => exact main .thing rfl
        | kind => exact main .kind rfl
        | nonet => exact main .nonet rfl
        | net o => exact False.elim h
    · exact False.elim h
end G
namespace G
open L2 PySem PySem.Spec PyProof.Rows
def wordsV : List V := [.str (PySem.Str.ofString "kind"), .str (PySem.Str.ofString "thing"), .str (PySem.Str.ofString "lines"), .str (PySem.Str.ofString "net"), .str (PySem.Str.ofString "none")]
/-- what the word's def does with an error of y's class -/
def tWord (K : PySem.W.Frag) (a : Addr) (y : X4) : TS :=
  tSeq (tAsg (tLst (tCons (tEb 0 a (y.eqb .kind)) (tCons (tEb 0 a (y.eqb .thing)) (tCons (tEb 0 a (y.eqb .lines)) (tCons (tEb 0 a false) tNil))))) (gName 1))
    (tSeq (tDrop (tBM K "list" rAppend (tVar 1) (tCons (tEb 0 a (y.eqb .nonet)) tNil)))
      (tSeq (tIfS (tOr (tTest (tOp rNe (tBM K "list" (rCntF K) (tVar 1) (tCons (tC (V.bl true)) tNil)) (tC (V.int 1)))) (tNot (tB (tEb 0 a true)))) (tRet (tLst (tCons (tC (V.str (PySem.Str.ofString "other"))) tNil))) tNext)
        (tRet (tLst (tCons (tOp (rIx K) (tLst (tCons (tC (.str (PySem.Str.ofString "kind"))) (tCons (tC (.str (PySem.Str.ofString "thing"))) (tCons (tC (.str (PySem.Str.ofString "lines"))) (tCons (tC (.str (PySem.Str.ofString "net"))) (tCons (tC (.str (PySem.Str.ofString "none"))) tNil)))))) (tBM K "list" (rIndex K) (tVar 1) (tCons (tC (V.bl true)) tNil))) tNil)))))
def X4.at5 : X4 → Nat
  | .kind => 0
  | .thing => 1
  | .lines => 2
  | .nonet => 4
theorem word_wish {K : PySem.W.Frag} {a : Addr} {y : X4} {H : Hp} {Q : VK} (hq : ∀ l H', H l = none → Ext H H' → H' l = some (.lst [.str y.word]) → Q (.ref l) H') : tWord K a y { nx := fun _ H' => Q .non H', rt := Q } (L2.start ["_law_e", "_law_mine"] [.ref a]) H := by
  refine ⟨rfl, rfl, rfl, rfl, (by decide : 4 ≤ sizeLine), fun l hl => ?_⟩
  refine ⟨.ref l, rfl, .inl ⟨rfl, _, SqL.of upd_same⟩, rfl, l, _, _, rfl, rfl, upd_same, (by decide : 4 < sizeLine), ?_⟩
  refine ⟨.ref l, rfl, .inl ⟨rfl, _, SqL.of upd_same⟩, l, _, .bl true, rfl, rfl, SqL.of upd_same, rfl, by cases y <;> rfl, by cases y <;> rfl, false, by cases y <;> rfl, ?_⟩
  refine (if_neg Bool.false_ne_true).mpr ?_
  refine ⟨rfl, true, rfl, ?_⟩
  refine (if_neg Bool.false_ne_true).mpr ?_
  refine ⟨by decide, fun l2 hl2 => ?_⟩
  have n12 : l ≠ l2 := fun e => by
    rw [← e, upd_same] at hl2
    cases hl2
  refine ⟨.ref l, rfl, .inl ⟨rfl, _, SqL.of (by rw [upd_ne n12]; exact upd_same)⟩, l, _, .bl true, y.at5, .bl true, rfl, rfl, SqL.of (by rw [upd_ne n12]; exact upd_same), rfl, by cases y <;> rfl, by cases y <;> rfl, rfl, ?_, ?_⟩
  · intro m z hm hz
    cases y with
    | kind => exact absurd hm (by simp [X4.at5])
    | thing => match m, hm, hz with
      | 0, _, hz => cases hz; rfl
    | lines => match m, hm, hz with
      | 0, _, hz => cases hz; rfl
      | 1, _, hz => cases hz; rfl
    | nonet => match m, hm, hz with
      | 0, _, hz => cases hz; rfl
      | 1, _, hz => cases hz; rfl
      | 2, _, hz => cases hz; rfl
      | 3, _, hz => cases hz; rfl
  · refine .inl ⟨l2, wordsV, _, .str y.word, rfl, rfl, SqL.of upd_same, by cases y <;> rfl, ?_⟩
    refine ⟨(by decide : 1 ≤ sizeLine), fun l3 hl3 => hq l3 _ ?_ ?_ upd_same⟩
    · have n23 : l3 ≠ l2 := fun e => by
        rw [e, upd_same] at hl3
        cases hl3
      rw [upd_ne n23] at hl3
      have n13 : l3 ≠ l := fun e => by
        rw [e, upd_same] at hl3
        cases hl3
      rw [upd_ne n13, upd_ne n13] at hl3
      exact hl3
    · intro b o hb
      have nb : b ≠ l := ne_of_none hb hl
      have hl2' : H l2 = none := by
        rw [upd_ne (Ne.symm n12), upd_ne (Ne.symm n12)] at hl2
        exact hl2
      have nb2 : b ≠ l2 := ne_of_none hb hl2'
      have n3 : b ≠ l3 := fun e => by
        rw [← e, upd_ne nb2, upd_ne nb, upd_ne nb, hb] at hl3
        cases hl3
      rw [upd_ne n3, upd_ne nb2, upd_ne nb, upd_ne nb]
      exact hb
end G
/-! G10: more words: tuple * int at 0 and 1, text * int, {}, not in a table, min with a default, three comparisons. -/
namespace G
open L2 PySem PySem.Spec PyProof.Rows
theorem tup_mul1 (l : Addr) (items : Array Value) (n : Nat) (dd : Option Addr) (sl : Array (Option Value)) (u : Tok) :
    Meets (Builtin.«tuple.__mul__» ⟨[.ref l, .int 1 u], []⟩) (fun _ R s => s.heap.get? l = some { cls := .type "tuple", dict := dd, data := .seq items n, slots := sl } ∧ R (.ok (.ret (Value.ref l))) s) :=
  .of_wp fun prog w A R s h => by
    obtain ⟨hp, g, d, tk, os⟩ := s
    obtain ⟨hl, h⟩ := h
    have f1 := AutoSeq1.idx_int
    wp_walk using wpAny_loadPart' hl
    exact ⟨_, rfl, h⟩
theorem tup_mul0 (l : Addr) (items : Array Value) (n : Nat) (dd : Option Addr) (sl : Array (Option Value)) (x : Int) (u : Tok) (c0 : (decide (x < -(2 ^ 63)) || decide (x ≥ 2 ^ 63)) = false) (c1 : (items.isEmpty || x == 1) = false) (c2 : (decide (x ≤ 0) || items.isEmpty) = true) :
    Meets (Builtin.«tuple.__mul__» ⟨[.ref l, .int x u], []⟩) (fun _ R s => s.heap.get? l = some { cls := .type "tuple", dict := dd, data := .seq items n, slots := sl } ∧
      R (.ok (.ret (Value.ref s.heap.objs.size))) { s with heap := s.heap.push { cls := Value.type "tuple", data := Data.seq #[] }, toks := s.toks }) :=
  .of_wp fun prog w A R s h => by
    obtain ⟨hp, g, d, tk, os⟩ := s
    obtain ⟨hl, h⟩ := h
    have f1 := AutoSeq1.idx_int
    wp_walk using wpAny_loadPart' hl
    repeat (first
      | (refine wpAny_ite_false (decide_eq_false (by rw [c0]; exact Bool.false_ne_true)) ?_; wp_walk using wpAny_loadPart' hl)
      | (refine wpAny_ite_false (decide_eq_false (by rw [c1]; exact Bool.false_ne_true)) ?_; wp_walk using wpAny_loadPart' hl)
      | (refine wpAny_ite_true (decide_eq_true c2) ?_; wp_walk using wpAny_loadPart' hl))
    exact ⟨_, rfl, h⟩
def rRep01 (K : PySem.W.Frag) : R2 := fun x y H Q => ∃ l k xs, x = .ref l ∧ y = .int k ∧ SqT K H l xs ∧ xs ≠ [] ∧ (k = 0 ∨ k = 1) ∧ (k = 1 → Q (.ref l) H) ∧ (k = 0 → ∀ p, H p = none → Q (.ref p) (upd H p (.tup [])))
theorem op_rep01 {X : Cx} : OpR X (binaryOp .Mult) (rRep01 X.K) := fun pins s σ H x y v u Q I rx ry h => by
  obtain ⟨l, k, xs, rfl, rfl, hT, hne, hk, q1, q0⟩ := h
  cases rx
  obtain ⟨t, rfl⟩ := ry
  obtain ⟨its, r, ⟨⟨cls, dd, data, sl⟩, ho, hc, n, hd⟩, _⟩ := I.tuple hT
  simp only at hc hd
  subst hc hd
  have hi : its.toArray.isEmpty = false := by
    cases r with
    | nil => exact absurd rfl hne
    | cons a b => rfl
  rcases hk with rfl | rfl
  · refine wpAny_binaryOp_repeat_ref (T := "tuple") (U := "int") (by decide) ⟨_, ho, rfl⟩ (fun s' => typeIs_int s' 0 t) noFill_tuple_mul F.fills_int_mul F.slot_int_rmul repeat_tuple F.slot_int_index.lookup
      (call_meets F.slot_int_rmul (typeIs_int s 0 t) F.entry_int_rmul (F.args_int_rmul_2 _ _) (int_rmul_tuple 0 t l its.toArray n dd sl)
        ⟨ho, rfl, ⟨_, ho, rfl⟩, call_meets F.slot_tuple_mul ⟨_, ho, rfl⟩ F.entry_tuple_mul (F.args_tuple_mul_2 _ _) (tup_mul0 l its.toArray n dd sl 0 t (by decide) (by rw [hi]; rfl) rfl) ⟨ho, ?_⟩⟩)
    exact ⟨.ref s.heap.objs.size, _, I.laid (t' := s.toks) (o := .tup []) (fun b ob q => Heap.get?_push_of_some _ q) (Nat.le_refl _) ⟨Nat.zero_le _, [], .nil, IsTup.new _ _⟩, rfl, q0 rfl _ (I.hok.fresh (Nat.le_refl _))⟩
  · refine wpAny_binaryOp_repeat_ref (T := "tuple") (U := "int") (by decide) ⟨_, ho, rfl⟩ (fun s' => typeIs_int s' 1 t) noFill_tuple_mul F.fills_int_mul F.slot_int_rmul repeat_tuple F.slot_int_index.lookup
      (call_meets F.slot_int_rmul (typeIs_int s 1 t) F.entry_int_rmul (F.args_int_rmul_2 _ _) (int_rmul_tuple 1 t l its.toArray n dd sl)
        ⟨ho, rfl, ⟨_, ho, rfl⟩, call_meets F.slot_tuple_mul ⟨_, ho, rfl⟩ F.entry_tuple_mul (F.args_tuple_mul_2 _ _) (tup_mul1 l its.toArray n dd sl t) ⟨ho, ?_⟩⟩)
    exact ⟨.ref l, H, I.tok _, rfl, q1 rfl⟩
end G
namespace G
open L2 PySem PySem.Spec PyProof.Rows
/-! ### text * int -/
def repS (x : Str) (n : Nat) : Str := ⟨(List.replicate n x.cps).foldl (· ++ ·) #[]⟩
theorem fold_size (a : Array Nat) : ∀ (n : Nat) (b : Array Nat), ((List.replicate n a).foldl (· ++ ·) b).size = b.size + n * a.size
  | 0, b => by simp
  | n + 1, b => by
    rw [List.replicate_succ, List.foldl_cons, fold_size a n, Array.size_append, Nat.succ_mul]
    omega
theorem repS_len (x : Str) (n : Nat) : (repS x n).length = n * x.length := by
  show ((List.replicate n x.cps).foldl (· ++ ·) #[]).size = n * x.cps.size
  rw [fold_size]
  simp
def rRepS : R2 := fun x y H Q => ∃ z k, x = .str z ∧ y = .int k ∧ z.length = 1 ∧ 2 ≤ k ∧ k ≤ 100000 ∧ Q (.str (repS z k.toNat)) H
theorem op_repS {X : Cx} : OpR X (binaryOp .Mult) rRepS := fun pins s σ H x y v u Q I rx ry h => by
  obtain ⟨z, k, rfl, rfl, hz, h1, h2, q⟩ := h
  obtain ⟨t, rfl⟩ := rx
  obtain ⟨t2, rfl⟩ := ry
  have e1 : (k == 1 || z.length == 0) = false := by
    rw [hz, beq_eq_false_iff_ne.mpr (show k ≠ 1 by omega)]
    rfl
  refine PySem.P.mul_str (by rw [decide_eq_false (by omega), decide_eq_false (by omega)]; rfl) (fun _ _ => ?_) (fun _ _ => ?_) ?_
  · rw [hz]
    have : (1 : Int) ≤ (2 ^ 63 - 1) / k := Int.le_ediv_of_mul_le (by omega) (by omega)
    show ¬ ((1 : Nat) : Int) > _
    omega
  · unfold Builtin.Str.tooLong
    rw [hz, sizeLine_eq]
    exact decide_eq_false (by omega)
  · rw [if_neg (by omega), if_neg (by rw [e1]; exact Bool.false_ne_true)]
    refine ⟨?_, .str (repS z k.toNat), H, I.tok _, ⟨s.toks, rfl⟩, q⟩
    show (repS z k.toNat).length ≤ sizeLine
    rw [repS_len, hz, sizeLine_eq]
    omega
/-! ### * -/
def opMulX (c : Bool) : D → D → M D
  | .tup xs, .int k => if (!xs.isEmpty && (decide (xs.length ≤ 1000) && decide (0 ≤ k ∧ k ≤ 1000))) = true then M.ret (.tup (List.replicate k.toNat xs).flatten) else M.no
  | .str x, .int k => if (decide (x.length = 1) && decide (2 ≤ k ∧ k ≤ 100000)) = true then M.ret (.str (repS x k.toNat)) else M.no
  | d, e => opMul c d e
def rMulX (K : PySem.W.Frag) : R2 := fun x y H Q => rMulA x y H Q ∨ (fun x y H Q => rRepT K x y H Q ∨ (fun x y H Q => rRep01 K x y H Q ∨ rRepS x y H Q) x y H Q) x y H Q
theorem op_mulX {X : Cx} : OpR X (binaryOp .Mult) (rMulX X.K) := OpR.or op_mulA (OpR.or op_repT (OpR.or op_rep01 op_repS))
theorem od_mulX {K : PySem.W.Frag} {ct : Ct} (c : Bool) : OpD K ct (rMulX K) (opMulX c) := fun W n F H as cs x y d e Q ok hx hy h => by
  unfold opMulX at h
  split at h
  · split at h
    · rename_i xs k q
      cases hy
      cases hx with
      | tup t l =>
        obtain ⟨q1, q2⟩ := Bool.and_eq_true_iff.mp q
        obtain ⟨q3, q4⟩ := Bool.and_eq_true_iff.mp q2
        have q3 := of_decide_eq_true q3
        obtain ⟨k0, k1⟩ := of_decide_eq_true q4
        have hne : xs ≠ [] := fun e => by
          rw [e] at q1
          cases q1
        have hne2 : ¬ (_ : List V) = [] := fun e => hne (l.nil_iff.mp e)
        by_cases h2 : 2 ≤ k
        · exact .inr (.inl ⟨_, _, _, rfl, rfl, SqT.of (ok.fh _ _ t), hne2, h2, k1, by rw [l.length]; exact q3, new_tup ok l.flat h⟩)
        · refine .inr (.inr (.inl ⟨_, _, _, rfl, rfl, SqT.of (ok.fh _ _ t), hne2, by omega, fun e => ?_, fun e p hp => ?_⟩))
          · subst e
            have e2 : (List.replicate (1 : Int).toNat xs).flatten = xs := by simp
            rw [e2] at h
            exact end_ok ok (.tup t l) h
          · subst e
            exact new_tup ok .nil h p hp
    · exact False.elim h
  · split at h
    · rename_i z k q
      cases hx
      cases hy
      obtain ⟨q1, q2⟩ := Bool.and_eq_true_iff.mp q
      obtain ⟨k0, k1⟩ := of_decide_eq_true q2
      exact .inr (.inr (.inr ⟨_, _, rfl, rfl, of_decide_eq_true q1, k0, k1, end_ok ok (.str _) h⟩))
    · exact False.elim h
  · exact .inl (od_mul c W n F H as cs x y _ _ Q ok hx hy h)
/-! ### {} -/
section
variable {X : Cx} {ct : Ct} {W : WX} {a : Expr} {ma : En → M D} {pos p : Pos}
theorem ge_dic : PE X (.Dict [] [] pos) (tD X.K ct W (xC .dic)) := PE.imp pe_dnewK (by
  rintro σ H Q ⟨F, as, env, cs, ok, sl, h⟩ l hl
  exact h _ _ as (gro_new _ ok hl) (ok_new _ ok hl) _ (.dic upd_same))
/-! ### not in a table of texts -/
def opNotK (ks : List Str) : D → M D := fun d => match flatV? d with
  | some v => M.ret (.bl (!inV v (ks.map V.str)))
  | none => M.no
theorem all_flat : ∀ ks : List Str, (ks.map V.str).all flatV = true
  | [] => rfl
  | _ :: r => by
    rw [List.map_cons, List.all_cons, all_flat r]
    rfl
theorem notK_of {K : PySem.W.Frag} {ks : List Str} {t : Addr} (hT : ∀ H, SqT K H t (ks.map V.str)) {σ : L2.St} {H : Hp} {Q : VK} (h : tD K ct W (xUn (opNotK ks) ma) σ H Q) : tOp (rIn K true) (tD K ct W ma) (tC (.ref t)) σ H Q := by
  obtain ⟨F, as, env, cs, ok, sl, h⟩ := h
  refine ⟨F, as, env, cs, ok, sl, out_imp (out_bnd h) fun d cs1 F1 H1 as1 g ok1 h1 v hv => ?_⟩
  unfold opNotK at h1
  cases e : flatV? d with
  | some u =>
    rw [e] at h1
    obtain ⟨rfl, f⟩ := flatV_eq hv e
    exact ⟨t, _, rfl, .inr (hT H1), f, all_flat ks, end_ok ok1 (.bl _) h1⟩
  | none =>
    rw [e] at h1
    exact False.elim h1
theorem ge_notKind {ks : List Str} {x : Str} (hm : ∃ t, X.mg x = some (.ref t) ∧ ∀ H, SqT X.K H t (ks.map V.str)) (hg : Gl X x) (ha : PE X a (tD X.K ct W ma)) (hd : (x == ("__debug__" : Str)) = false := by decide) (hb : behindInMarks .NotIn (.Name x p) = false := by rfl) :
    PE X (.Compare a [.NotIn] [.Name x p] pos) (tD X.K ct W (xUn (opNotK ks) ma)) := by
  obtain ⟨t, hm, hT⟩ := hm
  exact PE.imp (pe_cmpR op_notIn_seq ha (pe_glob (v := .ref t) hg hm rfl hd) hb) fun _ _ _ => notK_of hT
theorem gt_notKind {ks : List Str} {x : Str} (hm : ∃ t, X.mg x = some (.ref t) ∧ ∀ H, SqT X.K H t (ks.map V.str)) (hg : Gl X x) (ha : PE X a (tD X.K ct W ma)) (hd : (x == ("__debug__" : Str)) = false := by decide) (hb : behindInMarks .NotIn (.Name x p) = false := by rfl) :
    PT X (.Compare a [.NotIn] [.Name x p] pos) (tT X.K ct W (bVal (xUn (opNotK ks) ma))) := by
  obtain ⟨t, hm, hT⟩ := hm
  exact PT.imp (pt_cmpR op_notIn_seq ha (pe_glob (v := .ref t) hg hm rfl hd) hb) fun _ _ _ h => notK_of hT (bv_of h)
end
end G
/-! G11: BadNet: made, raised, asked for its class and its at. -/
namespace G
open L2 PySem PySem.Spec PyProof.Rows
/-! ### NetError.__init__(self, ..) -/
structure NeC (K : PySem.W.Frag) (ne : Addr) : Prop where
  hsp : PySem.W.specialIn K (.ref ne) "__getattribute__" = some (some (.builtin "type.__getattribute__"))
  rd : PySem.W.readsIn K ne (.type "type") = true
  fc : PySem.W.findCls K (.ref ne) (.type "type") "__init__" = some (.val (.builtin "ValueError.__init__"))
section
variable {X : Cx} {e : Expr} {es : List Expr} {ta : TA} {p1 p2 pos : Pos} {ne : Addr}
theorem pe_initO {pl : Sem Bool} (N : NeC X.K ne) (hg : Gl X "NetError") (hm : X.mg "NetError" = some (.ref ne)) (ha : PA X (e :: es) ta)
    (hc : eval (.Call (.Attribute (.Name "NetError" p1) "__init__" p2) (e :: es) [] pos) X.env = (do
      let ov ← eval (.Name "NetError" p1) X.env
      standAt p2.atName
      let (f, first) ← holding [ov] (getMethod ov "__init__" pl)
      callWith pos f first (backTo pos (starEach (e :: es) X.env)) (backToKw pos (keywordEach [] X.env))) := by rfl)
    (he : starEach (e :: es) X.env = (false, eval e X.env) :: starEach es X.env := by rfl) (hpl : (backTo pos (starEach es X.env)).any (·.1) = false := by rfl) : PE X (.Call (.Attribute (.Name "NetError" p1) "__init__" p2) (e :: es) [] pos) (tVeI X.K ta) := by
  refine ⟨fun pins s σ H Q I h => PySem.W.methodCall_KW (ld_glob I hg hm ?_ (by decide)) hc⟩
  refine PySem.W.method_cls I.kIn N.hsp (PySem.W.cls_value I.kIn N.rd N.fc (by decide +kernel) ?_)
  show wpAny _ _ (callWith pos (Value.builtin "ValueError.__init__") [] (backTo pos (starEach (e :: es) X.env)) []) _ _ _
  refine PyProof.Rows.callWith_method1 (thn (ha.run pos pins _ σ H _ (I.tok _) h) fun us s1 hh => ?_) he hpl
  obtain ⟨vs, H1, I1, r1, a, C, ws, rfl, hl, T, ea, q⟩ := hh
  cases r1 with
  | cons ra rw =>
    cases ra
    exact oinit_ok T I1 ea (by rw [← Paired.length rw, sizeLine_eq]; omega) fun s' J => ⟨.non, H1, J, rfl, q⟩
end
/-! ### __class__ of an error with a dict -/
theorem kin_classD {prog : Program} {w : World} {A : Around} {E : Value → Shared → Prop} {s : Shared} {K : PySem.W.Frag} {x D : Addr} {ox od : Obj} {Q : Option Value → Shared → Prop} (C : ExcC K D) (X : K.In s.heap) (I : PySem.W.InstAt s.heap x ox D (some od)) (h : Q (some (.ref D)) { s with toks := s.toks + 1 }) : wpAny (model prog w) A (getAttr? (.ref x) "__class__") Q E s := by
  have hf : PySem.W.findObj K D (some od) "__class__" = some (.bind (.builtin "getset_descriptor.__get__") (.builtin "object.__class__")) := PySem.W.findObj_data (by obtain ⟨cd, hc, _⟩ := PySem.W.any_some C.hd; rw [hc]; rfl) C.ha C.hn C.ht
  obtain ⟨hp, g, d, t, os⟩ := s
  have L0 := I.type (M := model prog w)
  have L1 := PySem.W.looks_findIn (M := model prog w) X C.hg
  have L2 := PySem.W.looks_findIn (M := model prog w) X C.hk
  have L3 := PySem.W.looks_find (M := model prog w) X I hf
  have sub : PySem.W.Looks (model prog w) hp (isInstance (.ref x) (.type "BaseException")) true := L0.andThen (PySem.W.looks_subIn X C.hs)
  have b0 : (false && onTheHeap (Value.builtin "BaseException.__getattribute__")) = false := rfl
  have b1 : (onTheHeap (Value.ref D) && Value.builtin "BaseException.__getattribute__" == Value.builtin "object.__getattribute__") = false := by
    rw [show (Value.builtin "BaseException.__getattribute__" == Value.builtin "object.__getattribute__") = false by decide +kernel]
    rfl
  unfold getAttr? getAttrBy? getAttrBy
  refine wpAny_bind (wpAny_mkText (wpAny_bind (wpAny_attempt (wpAny_holding (wpAny_bind (L0.at (wpAny_bind (L1.at ?_))))))))
  show wpAny _ _ (if (onTheHeap (Value.ref D) && Value.builtin "BaseException.__getattribute__" == Value.builtin "object.__getattribute__") = true then _ else _) _ _ _
  rw [b1, if_neg Bool.false_ne_true]
  unfold getAttrByItsOwn hookBefore
  refine wpAny_bind ?_
  rw [if_pos (show onTheHeap (Value.ref D) = true from rfl)]
  refine L2.at (wpAny_bind (wpAny_attempt (wpAny_holding ?_)))
  unfold callGetattribute
  rw [b0, if_neg Bool.false_ne_true]
  unfold boundAndCalled
  rw [PySem.F.excAttr_ValueError.ga.bind (.ref x)]
  refine wpAny_bind (wpAny_pure ?_)
  show wpAny _ _ (call (.builtin "BaseException.__getattribute__") [.ref x, .str "__class__" t]) _ _ _
  refine wpAny_call (codeAny_call_builtin PySem.F.excAttr_ValueError.ga.plain PySem.F.entry_bexc_ga (@PySem.W.check_slot (model prog w) _ _ ⟨hp, g, d, t + 1, os⟩ "BaseException.__getattribute__" "BaseException" "__getattribute__" (.ref x) [.str "__class__" t] [] _ (by decide +kernel) (by decide +kernel) sub (PySem.F.args_bexc_ga (.ref x) (.str "__class__" t)) ?_))
  unfold Builtin.«object.__getattribute__»
  refine wpAny_bind (wpAny_of_eq (a := ((Value.ref x : Value), [Value.str "__class__" t])) (by first | rfl | (simp only [slotArgs]; rfl)) (wpAny_bind (wpAny_pure (wpAny_bind (L0.at (wpAny_bind (L3.at ?_)))))))
  show wpAny _ _ (holding [Value.builtin "object.__class__"] (call (.builtin "getset_descriptor.__get__") [.builtin "object.__class__", .ref x, .ref D]) >>= ret) _ _ _
  refine wpAny_bind (wpAny_holding (wpAny_call (PySem.W.class_get (s := ⟨hp, g, d, t + 1, os⟩) (ox := ox) (od := some od) X I C.hm (wpAny_pure ?_))))
  show wpAny _ _ (handedOut (.ref D)) _ _ _
  rw [PySem.W.handedOut_of (v := .ref D) rfl]
  first
    | exact wpAny_pure (wpAny_pure h)
    | exact wpAny_pure h
    | exact wpAny_pure (wpAny_bind (wpAny_pure (wpAny_pure h)))
theorem kitx_D {K : PySem.W.Frag} {x D : Addr} {ox od : Obj} (C : ExcC K D) : PySem.W.KitX K (.ref x) (.ref D) (fun h => PySem.W.InstAt h x ox D (some od)) where
  ty := fun _ _ _ I => I.type
  it := fun M h X _ => by
    obtain ⟨cd, hc, _⟩ := PySem.W.any_some C.hd
    unfold PySem.W.clsIn at hc
    split at hc
    · rename_i ho
      intro A' Q' E' s' k' q'
      unfold isType loadHead
      exact wpAny_bind (wpAny_loadPart (k' _ _ (X _ _ ho)) (wpAny_pure q'))
    · cases hc
  ne := fun h tp dd its n sl X htp => (PySem.W.handS_kitx_exc (K := K) (x := x) (ox := ox) C.hg C.hk C.hs C.hd C.ha C.hn C.ht C.hm).ne h tp dd its n sl X htp
  ca := fun X I k => kin_classD C X I k
/-! ### BadNet's own __init__ -/
def spInit (K : PySem.W.Frag) (C : Addr) : Sp := fun vs H Q _ => ∃ a v, vs = [.ref a, v] ∧ OexC K C ∧ PySem.W.findIn K (.ref C) "at" = some none ∧ H a = some (exo a C none) ∧ ∀ dx, H dx = none → dx ≠ a → Q .non (upd (upd H dx (exd dx [(PySem.Str.ofString "at", v)])) a (exo a C (some dx)))
def tInit (K : PySem.W.Frag) : TS := tSeq (tDrop (tVeI K (tCons (tVar 0) (tCons (tC (.str (PySem.Str.ofString "no net"))) tNil)))) (tOst K "at" (tVar 0) (tVar 1))
theorem init_wish {K : PySem.W.Frag} {C : Addr} {vs : List V} {H : Hp} {Q : VK} {E : XK} (h : spInit K C vs H Q E) : tInit K { nx := fun _ H' => Q .non H', rt := Q } (L2.start ["self", "at"] vs) H := by
  obtain ⟨a, v, rfl, T, hno, ha, hq⟩ := h
  refine ⟨.ref a, rfl, a, C, _, rfl, (by decide : 1 ≤ 1000), T, ha, ?_⟩
  exact ⟨v, rfl, .ref a, rfl, a, C, rfl, T, hno, .inl ⟨ha, fun dx n ne => hq dx n ne⟩⟩
/-- all that BadNet(..) leans on -/
structure Nt (P : Program) (w : World) (K : PySem.W.Frag) (mg : Str → Option Value) (base : Heap) (ct : Ct) : Prop where
  oex : OexC K ct.net
  hno : PySem.W.findIn K (.ref ct.net) "at" = some none
  ini : ∃ fI fd, PySem.W.findIn K (.ref ct.net) "__init__" = some (some (.ref fI)) ∧ PySem.W.typeIn K (.ref fI) = some (.type "function") ∧ L2.Binds K fd ["self", "at"] [] ∧ FnP P w K mg base 1 fI fd ["self", "at"] (spInit K ct.net)
  mgN : mg "BadNet" = some (.ref ct.net)
def sRaiseNet (m : En → M D) : En → M Fl := fun env => M.bnd (m env) fun d => match d with
  | .non => M.thr (.net none)
  | .int i => M.thr (.net (some i))
  | _ => M.no
theorem gs_raiseNet {X : Cx} {ct : Ct} {W : WX} {k : Nat} {e : Expr} {ma : En → M D} {p p3 pos : Pos} (N : Nt X.prog X.w X.K X.mg X.base ct) (hc : X.calm = true) (hr : Room k X.A) (hk : 2 ≤ k) (tk : Takes X W) (hg : Gl X "BadNet") (ha : PE X e (tD X.K ct W ma)) (he : starEach [e] X.env = (false, eval e X.env) :: starEach [] X.env := by rfl) :
    PS X (.Raise (some (.Call (.Name "BadNet" p) [e] [] p3)) none pos) (tS X.K ct W (sRaiseNet ma)) := by
  obtain ⟨fI, fd, h1, h2, h3, F1⟩ := N.ini
  refine PS.imp (ps_raise hc tk (pmk_oex (ds := []) (dvs := []) N.oex h1 h2 F1 (hr.mono hk) h3 .nil (fun pins σ H s er s' I z => ?_) hg N.mgN (pa_cons ha pa_nil he) (by decide) he rfl)) ?_
  · obtain ⟨_, _, _, _, _, _, _, _, _, _, _, _, z⟩ := z
    exact z.elim
  · rintro D σ H ⟨F, as, env, cs, ok, sl, h⟩
    refine ⟨F, as, env, cs, ok, sl, out_imp (out_bnd h) fun d cs1 F1 H1 as1 g ok1 h4 v hv => ?_⟩
    refine ⟨(by decide : 1 ≤ 1000), fun a hn => ⟨a, v, rfl, N.oex, N.hno, upd_same, fun dx hdx ne => ⟨rfl, dx, [(PySem.Str.ofString "at", v)], upd_same, ?_, ?_, ?_⟩⟩⟩
    · rw [upd_ne ne, upd_same]
    · rw [upd_ne ne] at hdx
      exact hdx
    · have hdx1 : H1 dx = none := by
        rw [upd_ne ne] at hdx
        exact hdx
      have eH : upd (del (upd (upd (upd H1 a (exo a ct.net none)) dx (exd dx [(PySem.Str.ofString "at", v)])) a (exo a ct.net (some dx))) a) dx (.xd [(PySem.Str.ofString "at", v)]) = upd H1 dx (.xd [(PySem.Str.ofString "at", v)]) := by
        funext b
        by_cases hb : b = dx
        · rw [hb, upd_same, upd_same]
        · rw [upd_ne hb, upd_ne hb]
          by_cases hba : b = a
          · rw [hba, del_same, hn]
          · rw [del_ne hba, upd_ne hba, upd_ne hb, upd_ne hba]
      rw [eH]
      have fin : ∀ o : Option Int, v = atV o → out X.K ct W σ.length F1 H1 as1 (M.thr (α := Fl) (.net o) cs1) (oS X.K σ.length D) → W (.ref ct.net) (some dx) σ (upd H1 dx (.xd [(PySem.Str.ofString "at", v)])) := fun o ev h5 => by
        subst ev
        exact h5 (.ref ct.net) (some dx) σ F1 _ as1 rfl (gro_out _ ok1 hdx1) (ok_out _ ok1 hdx1) ⟨rfl, dx, _, rfl, upd_same, by simp [List.lookup]⟩
      split at h4
      · cases hv
        exact fin none rfl h4
      · rename_i i
        cases hv
        exact fin (some i) rfl h4
      · exact False.elim h4
end G
/-! G12: the law's word for any of the five errors. -/
namespace G
open L2 PySem PySem.Spec PyProof.Rows
/-- what is known of BadNet's class -/
structure XtN (K : PySem.W.Frag) (ct : Ct) (ne : Addr) : Prop where
  ex : ExcC K ct.net
  is4 : ∀ z : X4, PySem.W.kitOne K (.ref ct.net) (.ref (ct.at4 z)) = some false
  isN : PySem.W.kitOne K (.ref ct.net) (.ref ct.net) = some true
  isV : PySem.W.kitOne K (.ref ct.net) (.type "ValueError") = some true
  em : PySem.W.exmOne K (.ref ct.net) (.ref ne) = some true
  hno : PySem.W.findIn K (.ref ct.net) "at" = some none
/-- an error's own dict stands -/
def Dd (H : Hp) (dd : Addr) (o : Option Int) : Prop := ∃ fs, H dd = some (.xd fs) ∧ fs.lookup (PySem.Str.ofString "at") = some (atV o)
def tEd (i : Nat) (a dd : Addr) (o : Option Int) (b : Bool) : TE := fun σ H Q => σ[i]? = some (some (.ref a)) ∧ Dd H dd o ∧ Q (.bl b) H
theorem call_isXD {X : Cx} {p : Addr × Obj} {D dd : Addr} (C : ExcC X.K D) (hp : p ∈ X.pn) (hz : Zc (.ref D) (some dd) p.2) (hf : ∃ vs, p.2.data = .fields vs) : CallR X (.builtin "isinstance") (fun xs H Q => (∃ fs, H dd = some (.xd fs)) ∧ rIsE X.K D p.1 xs H Q) := fun pins s σ H xs us Q I r h => by
  obtain ⟨⟨fs, hfs⟩, c, cv, b, rfl, hcv, e, q⟩ := h
  obtain ⟨x1, x2, rfl, r1, r2⟩ := vals2 r
  cases r1
  cases hcv _ r2
  obtain ⟨vs, hv⟩ := hf
  obtain ⟨z1, z2⟩ := hz
  have hx : ObjOk X.prog X.w H s.heap dd (.xd fs) := I.hok dd _ hfs
  obtain ⟨mA, hns, _⟩ := hx
  obtain ⟨od, ho, _⟩ := lookIn_ns hns
  have J : PySem.W.InstAt s.heap p.1 p.2 D (some od) := ⟨(I.pin p (List.mem_append_left _ hp)).1, z1, by unfold PySem.W.notCls; rw [hv] <;> rfl, by rw [z2]; exact ho⟩
  exact PySem.W.kia_one (kitx_D C) I.kIn J e (fun z => nomatch z) fun tk => ⟨.bl b, H, I.kept (t' := tk) fun _ _ z => z, rfl, q⟩
section
variable {X : Cx} {D c dd : Addr} {pn : Addr × Obj} {e : Expr} {x : Str} {p p2 pos : Pos} {i : Nat} {b : Bool} {o : Option Int}
theorem pe_dOwn (C : ExcC X.K D) (hp : pn ∈ X.pn) (hz : Zc (.ref D) (some dd) pn.2) (hf : ∃ vs, pn.2.data = .fields vs) (hI : X.mg "isinstance" = none) (hm : X.mg x = some (.ref c)) (k : PySem.W.kitOne X.K (.ref D) (.ref c) = some b) (he : PE X e (tVar i)) (hgI : Gl X "isinstance") (hg : Gl X x) (hd : (x == ("__debug__" : Str)) = false := by decide)
    (h1 : starEach [e, .Name x p2] X.env = (false, eval e X.env) :: starEach [.Name x p2] X.env := by rfl) (h2 : starEach [.Name x p2] X.env = (false, eval (.Name x p2) X.env) :: starEach [] X.env := by rfl) (hpl : (backTo pos (starEach [.Name x p2] X.env)).any (·.1) = false := by rfl) :
    PE X (.Call (.Name "isinstance" p) [e, .Name x p2] [] pos) (tEd i pn.1 dd o b) := PE.imp (pe_callB (call_isXD C hp hz hf) hgI hI (by decide +kernel) (pa_cons he (pa_cons (pe_glob (v := .ref c) hg hm rfl hd) pa_nil h2) h1) (by decide) (by decide) h1 hpl) fun σ H Q h => ⟨_, h.1, ⟨h.2.1.choose, h.2.1.choose_spec.1⟩, .ref c, .ref c, b, rfl, fun _ r => r, k, h.2.2⟩
theorem pe_dVal (C : ExcC X.K D) (hp : pn ∈ X.pn) (hz : Zc (.ref D) (some dd) pn.2) (hf : ∃ vs, pn.2.data = .fields vs) (hI : X.mg "isinstance" = none) (hm : X.mg "ValueError" = none) (k : PySem.W.kitOne X.K (.ref D) (.type "ValueError") = some b) (he : PE X e (tVar i)) (hgI : Gl X "isinstance") (hg : Gl X "ValueError")
    (h1 : starEach [e, .Name "ValueError" p2] X.env = (false, eval e X.env) :: starEach [.Name "ValueError" p2] X.env := by rfl) (h2 : starEach [.Name "ValueError" p2] X.env = (false, eval (.Name "ValueError" p2) X.env) :: starEach [] X.env := by rfl) (hpl : (backTo pos (starEach [.Name "ValueError" p2] X.env)).any (·.1) = false := by rfl) :
    PE X (.Call (.Name "isinstance" p) [e, .Name "ValueError" p2] [] pos) (tEd i pn.1 dd o b) := PE.imp (pe_callB (call_isXD C hp hz hf) hgI hI (by decide +kernel) (pa_cons he (pa_cons (pe_bltn (v := .ty "ValueError") hg hm (by decide +kernel) rfl) pa_nil h2) h1) (by decide) (by decide) h1 hpl) fun σ H Q h => ⟨_, h.1, ⟨h.2.1.choose, h.2.1.choose_spec.1⟩, .ty "ValueError", .type "ValueError", b, rfl, fun _ r => r, k, h.2.2⟩
/-- e.at -/
def tAt (i : Nat) (a dd : Addr) (o : Option Int) : TE := fun σ H Q => σ[i]? = some (some (.ref a)) ∧ Dd H dd o ∧ Q (atV o) H
theorem pe_at (C : ExcC X.K D) (hno : PySem.W.findIn X.K (.ref D) "at" = some none) (hp : pn ∈ X.pn) (hz : Zc (.ref D) (some dd) pn.2) (hf : ∃ vs, pn.2.data = .fields vs) (he : PE X e (tVar i)) (hb : attributeBase e "at" X.env (eval e X.env) = eval e X.env := by rfl) : PE X (.Attribute e "at" pos) (tAt i pn.1 dd o) := by
  refine ⟨fun pins s σ H Q I h => attr_of hb (thn (he.run pins s σ H (fun x H1 => x = .ref pn.1 ∧ Dd H1 dd o ∧ Q (atV o) H1) I ⟨_, h.1, rfl, h.2⟩) fun u s1 hh => ?_)⟩
  obtain ⟨x, H1, I1, rx, rfl, ⟨fs, hfs, hl⟩, q⟩ := hh
  cases rx
  obtain ⟨vs, hd⟩ := hf
  obtain ⟨z1, z2⟩ := hz
  obtain ⟨mA, hns, hr⟩ := (show ObjOk X.prog X.w H1 s1.heap dd (.xd fs) from I1.hok dd _ hfs)
  obtain ⟨od, ho, hk⟩ := lookIn_ns hns
  obtain ⟨u, hu, ru⟩ := RelO.some_of (v := atV o) (o := mA (PySem.Str.ofString "at")) (by rw [← hl]; exact hr _)
  have J : PySem.W.InstAt s1.heap pn.1 pn.2 D (some od) := ⟨(I1.pin pn (List.mem_append_left _ hp)).1, z1, by unfold PySem.W.notCls; rw [hd] <;> rfl, by rw [z2]; exact ho⟩
  exact HandSPX.exc_get I1.kIn J C.hg C.hk C.hs (PySem.W.findObj_own C.hd hno rfl (by rw [hk, hu])) (handed_of ru) ⟨_, H1, I1.tok _, ru, q⟩
end
/-- what nobody reaches -/
theorem pe_never {X : Cx} {e : Expr} : PE X e (fun _ _ _ => False) := ⟨fun _ _ _ _ _ _ h => h.elim⟩
theorem pt_never {X : Cx} {e : Expr} : PT X e (fun _ _ _ => False) := ⟨fun _ _ _ _ _ _ h => h.elim⟩
theorem pw_never {X : Cx} {e : Expr} : PW X e (fun _ _ _ => False) := ⟨fun _ _ _ _ _ _ _ h => h.elim⟩
theorem pss_never {X : Cx} {e : List Stmt} : PSs X e (fun _ _ _ => False) := ⟨fun _ _ _ _ _ _ h => h.elim⟩
theorem ps_never {X : Cx} {e : Stmt} : PS X e (fun _ _ _ => False) := ⟨fun _ _ _ _ _ _ h => h.elim⟩
end G
/-! G13: the second word, for any of the five errors. -/
namespace G
open L2 PySem PySem.Spec PyProof.Rows
theorem pe_atBool {X : Cx} {D dd : Addr} {pn : Addr × Obj} {e : Expr} {p p2 pos : Pos} {i : Nat} {o : Option Int} (hI : X.mg "isinstance" = none) (hB : X.mg "bool" = none) (ha : PE X e (tAt i pn.1 dd o)) (hgI : Gl X "isinstance") (hg : Gl X "bool")
    (h1 : starEach [e, .Name "bool" p2] X.env = (false, eval e X.env) :: starEach [.Name "bool" p2] X.env := by rfl) (h2 : starEach [.Name "bool" p2] X.env = (false, eval (.Name "bool" p2) X.env) :: starEach [] X.env := by rfl) (hpl : (backTo pos (starEach [.Name "bool" p2] X.env)).any (·.1) = false := by rfl) :
    PE X (.Call (.Name "isinstance" p) [e, .Name "bool" p2] [] pos) (tEd i pn.1 dd o false) := PE.imp (pe_callB call_isi hgI hI (by decide +kernel) (pa_cons ha (pa_cons (pe_bltn (v := .ty "bool") hg hB (by decide +kernel) rfl) pa_nil h2) h1) (by decide) (by decide) h1 hpl) (by
  rintro σ H Q ⟨h1, h2, h3⟩
  refine ⟨h1, h2, atV o, .ty "bool", ?_⟩
  cases o with
  | none => exact ⟨.type (tyN .non), .type Ty.bool.nm, false, rfl, .ty _, .base .non, kit_ty (kit_isD .bool .non), h3⟩
  | some j => exact ⟨.type (tyN (.int j)), .type Ty.bool.nm, false, rfl, .ty _, .base (.int j), kit_ty (kit_isD .bool (.int j)), h3⟩)
/-- what the second word's def does with an error of one of the four -/
def tWord4 (K : PySem.W.Frag) (a : Addr) (y : X4) : TS :=
  tSeq (tAsg (tLst (tCons (tEb 0 a (y.eqb .kind)) (tCons (tEb 0 a (y.eqb .thing)) (tCons (tEb 0 a (y.eqb .lines)) (tCons (tEb 0 a false) tNil))))) (gName 1))
    (tSeq (tDrop (tBM K "list" rAppend (tVar 1) (tCons (tEb 0 a (y.eqb .nonet)) tNil)))
      (tSeq (tIfS (tOr (tTest (tOp rNe (tBM K "list" (rCntF K) (tVar 1) (tCons (tC (V.bl true)) tNil)) (tC (V.int 1)))) (tNot (tB (tEb 0 a true)))) (tRet (tLst (tCons (tC (V.str (PySem.Str.ofString "other"))) tNil))) tNext)
        (tSeq (tIfS (tAnd (tB (tEb 0 a false)) (fun _ _ _ => False)) (fun _ _ _ => False) tNext)
          (tRet (tLst (tCons (tOp (rIx K) (tLst (tCons (tC (.str (PySem.Str.ofString "kind"))) (tCons (tC (.str (PySem.Str.ofString "thing"))) (tCons (tC (.str (PySem.Str.ofString "lines"))) (tCons (tC (.str (PySem.Str.ofString "net"))) (tCons (tC (.str (PySem.Str.ofString "none"))) tNil)))))) (tBM K "list" (rIndex K) (tVar 1) (tCons (tC (V.bl true)) tNil))) tNil))))))
theorem word_wish4 {K : PySem.W.Frag} {a : Addr} {y : X4} {H : Hp} {Q : VK} (hq : ∀ l H', H l = none → Ext H H' → H' l = some (.lst [.str y.word]) → Q (.ref l) H') : tWord4 K a y { nx := fun _ H' => Q .non H', rt := Q } (L2.start ["_law_e", "_law_mine"] [.ref a]) H := by
  refine ⟨rfl, rfl, rfl, rfl, (by decide : 4 ≤ sizeLine), fun l hl => ?_⟩
  refine ⟨.ref l, rfl, .inl ⟨rfl, _, SqL.of upd_same⟩, rfl, l, _, _, rfl, rfl, upd_same, (by decide : 4 < sizeLine), ?_⟩
  refine ⟨.ref l, rfl, .inl ⟨rfl, _, SqL.of upd_same⟩, l, _, .bl true, rfl, rfl, SqL.of upd_same, rfl, by cases y <;> rfl, by cases y <;> rfl, false, by cases y <;> rfl, ?_⟩
  refine (if_neg Bool.false_ne_true).mpr ?_
  refine ⟨rfl, true, rfl, ?_⟩
  refine (if_neg Bool.false_ne_true).mpr ?_
  refine ⟨rfl, false, rfl, ?_⟩
  refine (if_neg Bool.false_ne_true).mpr ?_
  refine (if_neg Bool.false_ne_true).mpr ?_
  refine ⟨by decide, fun l2 hl2 => ?_⟩
  have n12 : l ≠ l2 := fun e => by
    rw [← e, upd_same] at hl2
    cases hl2
  refine ⟨.ref l, rfl, .inl ⟨rfl, _, SqL.of (by rw [upd_ne n12]; exact upd_same)⟩, l, _, .bl true, y.at5, .bl true, rfl, rfl, SqL.of (by rw [upd_ne n12]; exact upd_same), rfl, by cases y <;> rfl, by cases y <;> rfl, rfl, ?_, ?_⟩
  · intro m z hm hz
    cases y with
    | kind => exact absurd hm (by simp [X4.at5])
    | thing => match m, hm, hz with
      | 0, _, hz => cases hz; rfl
    | lines => match m, hm, hz with
      | 0, _, hz => cases hz; rfl
      | 1, _, hz => cases hz; rfl
    | nonet => match m, hm, hz with
      | 0, _, hz => cases hz; rfl
      | 1, _, hz => cases hz; rfl
      | 2, _, hz => cases hz; rfl
      | 3, _, hz => cases hz; rfl
  · refine .inl ⟨l2, wordsV, _, .str y.word, rfl, rfl, SqL.of upd_same, by cases y <;> rfl, ?_⟩
    refine ⟨(by decide : 1 ≤ sizeLine), fun l3 hl3 => hq l3 _ ?_ ?_ upd_same⟩
    · have n23 : l3 ≠ l2 := fun e => by
        rw [e, upd_same] at hl3
        cases hl3
      rw [upd_ne n23] at hl3
      have n13 : l3 ≠ l := fun e => by
        rw [e, upd_same] at hl3
        cases hl3
      rw [upd_ne n13, upd_ne n13] at hl3
      exact hl3
    · intro b o hb
      have nb : b ≠ l := ne_of_none hb hl
      have hl2' : H l2 = none := by
        rw [upd_ne (Ne.symm n12), upd_ne (Ne.symm n12)] at hl2
        exact hl2
      have nb2 : b ≠ l2 := ne_of_none hb hl2'
      have n3 : b ≠ l3 := fun e => by
        rw [← e, upd_ne nb2, upd_ne nb, upd_ne nb, hb] at hl3
        cases hl3
      rw [upd_ne n3, upd_ne nb2, upd_ne nb, upd_ne nb]
      exact hb
/-- .. with BadNet's -/
def tWordN (K : PySem.W.Frag) (a dd : Addr) (o : Option Int) : TS :=
  tSeq (tAsg (tLst (tCons (tEd 0 a dd o false) (tCons (tEd 0 a dd o false) (tCons (tEd 0 a dd o false) (tCons (tEd 0 a dd o true) tNil))))) (gName 1))
    (tSeq (tDrop (tBM K "list" rAppend (tVar 1) (tCons (tEd 0 a dd o false) tNil)))
      (tSeq (tIfS (tOr (tTest (tOp rNe (tBM K "list" (rCntF K) (tVar 1) (tCons (tC (V.bl true)) tNil)) (tC (V.int 1)))) (tNot (tB (tEd 0 a dd o true)))) (tRet (tLst (tCons (tC (V.str (PySem.Str.ofString "other"))) tNil))) tNext)
        (tSeq (tIfS (tAnd (tB (tEd 0 a dd o true)) (tNot (tB (tEd 0 a dd o false)))) (tRet (tLst (tCons (tC (.str (PySem.Str.ofString "net"))) (tCons (tAt 0 a dd o) tNil)))) tNext) (fun _ _ _ => False))))
theorem Dd.ext {H H' : Hp} {dd : Addr} {o : Option Int} (h : Dd H dd o) (e : Ext H H') : Dd H' dd o := by
  obtain ⟨fs, h1, h2⟩ := h
  exact ⟨fs, e dd _ h1, h2⟩
theorem word_wishN {K : PySem.W.Frag} {a dd : Addr} {o : Option Int} {H : Hp} {Q : VK} (hd : Dd H dd o) (hq : ∀ l H', H l = none → Ext H H' → H' l = some (.lst [.str (PySem.Str.ofString "net"), atV o]) → Q (.ref l) H') : tWordN K a dd o { nx := fun _ H' => Q .non H', rt := Q } (L2.start ["_law_e", "_law_mine"] [.ref a]) H := by
  refine ⟨rfl, hd, rfl, hd, rfl, hd, rfl, hd, (by decide : 4 ≤ sizeLine), fun l hl => ?_⟩
  have x1 : Ext H (upd H l (.lst [.bl false, .bl false, .bl false, .bl true])) := Ext.new hl
  have x2 : Ext H (upd (upd H l (.lst [.bl false, .bl false, .bl false, .bl true])) l (.lst [.bl false, .bl false, .bl false, .bl true, .bl false])) := fun b u hb => by
    have nb : b ≠ l := ne_of_none hb hl
    rw [upd_ne nb, upd_ne nb]
    exact hb
  refine ⟨.ref l, rfl, .inl ⟨rfl, _, SqL.of upd_same⟩, rfl, hd.ext x1, l, _, _, rfl, rfl, upd_same, (by decide : 4 < sizeLine), ?_⟩
  have d2 := hd.ext x2
  refine ⟨.ref l, rfl, .inl ⟨rfl, _, SqL.of upd_same⟩, l, _, .bl true, rfl, rfl, SqL.of upd_same, rfl, rfl, rfl, false, rfl, ?_⟩
  refine (if_neg Bool.false_ne_true).mpr ⟨rfl, d2, true, rfl, ?_⟩
  refine (if_neg Bool.false_ne_true).mpr ?_
  refine ⟨rfl, d2, true, rfl, ?_⟩
  refine (if_pos rfl).mpr ⟨rfl, d2, false, rfl, ?_⟩
  refine (if_pos rfl).mpr ⟨rfl, d2, (by decide : 2 ≤ sizeLine), fun l3 hl3 => hq l3 _ ?_ ?_ upd_same⟩
  · have n3 : l3 ≠ l := fun e => by
      rw [e, upd_same] at hl3
      cases hl3
    rw [upd_ne n3, upd_ne n3] at hl3
    exact hl3
  · intro b u hb
    have n3 : b ≠ l3 := fun e => by
      have := x2 b u hb
      rw [e] at this
      have z := this.symm.trans (show _ = none from hl3)
      cases z
    rw [upd_ne n3]
    exact x2 b u hb
end G
namespace G
open L2 PySem PySem.Spec PyProof.Rows
def atD : Option Int → D
  | none => .non
  | some i => .int i
theorem atD_dv {K : PySem.W.Frag} {F : Hp} {as : List Addr} (o : Option Int) : Dv K F as (atV o) (atD o) := by
  cases o with
  | none => exact .non
  | some i => exact .int i
def wordD5 : Exn → Option D
  | .net o => some (.lst [.str (PySem.Str.ofString "net"), atD o])
  | x => wordD x
theorem wordD54 (y : X4) : wordD5 y.e = some (.lst [.str y.word]) := by cases y <;> rfl
def spW5 (K : PySem.W.Frag) (ct : Ct) : SpE := fun p vs H Q => spW K ct p vs H Q ∨ ∃ dd o, vs = [.ref p.1] ∧ Zc (.ref ct.net) (some dd) p.2 ∧ (∃ fs, p.2.data = .fields fs) ∧ Dd H dd o ∧ ∀ l H', H l = none → Ext H H' → H' l = some (.lst [.str (PySem.Str.ofString "net"), atV o]) → Q (.ref l) H'
def DpE5 (P : Program) (w : World) (K : PySem.W.Frag) (mg : Str → Option Value) (base : Heap) (ct : Ct) (k : Nat) : Prop := ∃ fa fd, mg "_law_word" = some (.ref fa) ∧ PySem.W.keepIn K (.ref fa) = true ∧ L2.Binds K fd ["_law_e"] [] ∧ FnE P w K mg base k fa fd ["_law_e"] (spW5 K ct)
theorem new_ext {K : PySem.W.Frag} {F H H' : Hp} {as : List Addr} {cs : Cs} {l : Addr} {ys : List V} (ok : Ok K F H as cs) (hn : H l = none) (he : Ext H H') (hH : H' l = some (.lst ys)) : Gro F H as (upd F l (.lst ys)) H' as ∧ Ok K (upd F l (.lst ys)) H' as cs := by
  refine ⟨⟨Ext.new (ok.fnone hn), fun q hq => upd_ne fun e => hq (by rw [e]; exact hn), fun q o hq _ => he q o hq, fun q hq => ?_, List.prefix_rfl, fun _ m => .inl m⟩, ⟨fun b o e => ?_, ok.nd, ok.len, fun j a xs ha hxs => ?_⟩⟩
  · cases q2 : H q with
    | none => exact absurd q2 hq
    | some o =>
      rw [he q o q2]
      exact fun z => nomatch z
  · by_cases q : b = l
    · rw [q, upd_same] at e
      cases e
      rw [q]
      exact hH
    · rw [upd_ne q] at e
      exact he b o (ok.fh b o e)
  · obtain ⟨w1, ys2, w2, w3⟩ := ok.cell j a xs ha hxs
    exact ⟨by rw [upd_ne fun e => ok.out hn (by rw [← e]; exact List.mem_of_getElem? ha)]; exact w1, ys2, he a _ w2, w3.mono (Ext.new (ok.fnone hn)) List.prefix_rfl⟩
/-- try: body, except NetError as e: return _law_word(e), any of the five -/
def sTryW5 (i : Nat) (body : En → M Fl) : En → M Fl := fun env cs => if i < env.length then (match body env cs with
  | .ok f cs' => .ok f cs'
  | .ex x cs' => (match wordD5 x with
    | some d => .ok (.rt d) cs'
    | none => .no)
  | .no => .no) else .no
def tsW5 (ct : Ct) (i : Nat) (a : Addr) (cls : Value) (d : Option Addr) : TS := fun E σ H => σ[i]? = some (some (.ref a)) ∧ ((∃ y : X4, cls = .ref (ct.at4 y) ∧ d = none ∧ ∀ l H', H l = none → Ext H H' → H' l = some (.lst [.str y.word]) → E.rt (.ref l) H') ∨
  ∃ dd o, cls = .ref ct.net ∧ d = some dd ∧ Dd H dd o ∧ ∀ l H', H l = none → Ext H H' → H' l = some (.lst [.str (PySem.Str.ofString "net"), atV o]) → E.rt (.ref l) H')
theorem gs_tryW5 {X : Cx} {ct : Ct} {W : WX} {ne : Addr} {i k j : Nat} {n : Str} {mb : En → M Fl} {body : List Stmt} {np pos pos' p1 p2 p3 p4 : Pos} (T : Xt X.K X.mg ct ne) (N : XtN X.K ct ne) (hs : X.stack = X.env :: X.outer) (hf : X.env.frame = some X.env.locals) (hN : X.N.Nodup) (hi : X.N[i]? = some n) (hln : X.env.kindOf n = some .local) (hg : Gl X "NetError") (tk : Takes X W)
    (hr : Room k X.A) (hj : j ≤ k) (Wd : DpE5 X.prog X.w X.K X.mg X.base ct j) (hgw : Gl X "_law_word") (hv : ∀ (a : Addr) (pn : List (Addr × Obj)), PE (X.suite a pn) (.Name n p3) (tVar i)) (hst : starEach [.Name n p3] X.env = (false, eval (.Name n p3) X.env) :: starEach [] X.env)
    (hb : ∀ (W : WX) (pn : List (Addr × Obj)) (xe : Value → Shared → Prop), Takes (X.tr pn xe) W → PassesOwn (model X.prog X.w) X.A X.env xe → PSs (X.tr pn xe) body (tS X.K ct W mb)) :
    PS X (.Try body [.ExceptHandler (some (.Name "NetError" np)) (some n) [.Return (some (.Call (.Name "_law_word" p1) [.Name n p3] [] p4)) p2] pos'] [] [] pos) (tS X.K ct W (sTryW5 i mb)) := by
  obtain ⟨fa, fd, hm, hk, hbd, Fn⟩ := Wd
  refine PS.imp (ps_try_as (i := i) (c := .ref ne) (Wout := W) (ts := tsW5 ct i) hs hf hN hi hln ⟨hg, by decide, .inl T.mgE⟩ tk hb fun a oe cls d pn hz hfl => ?_) ?_
  · refine PSs.imp (pss_one (ps_ret (pe_callE (p := (a, oe)) (ps := ["_law_e"]) (X := X.suite a ((a, oe) :: pn)) Fn List.mem_cons_self ⟨(hr.mono hj).dp, (hr.mono hj).un⟩ hgw hm hk hbd (pa_cons (hv a _) pa_nil hst) (by decide) hst rfl))) ?_
    rintro E σ H ⟨h1, ⟨y, rfl, rfl, h2⟩ | ⟨dd, o, rfl, rfl, h3, h2⟩⟩
    · exact ⟨_, h1, rfl, .inl ⟨y, rfl, hz, hfl, h2⟩⟩
    · exact ⟨_, h1, rfl, .inr ⟨dd, o, rfl, hz, hfl, h3, h2⟩⟩
  · rintro E σ H ⟨F, as, env, cs, ok, sl, h⟩
    refine ⟨F, as, env, cs, ok, sl, ?_⟩
    unfold sTryW5 at h
    split at h
    · rename_i hi0
      cases q : mb env cs with
      | no =>
        rw [q] at h
        exact h
      | ok f cs2 =>
        rw [q] at h
        exact h
      | ex x cs2 =>
        rw [q] at h
        intro c d σ' F1 H1 as1 hl g1 ok1 hx
        have at_ : ∀ a : Addr, (σ'.set i (some (V.ref a)))[i]? = some (some (.ref a)) := fun a => List.getElem?_set_self (by rw [hl, sl.len]; exact hi0)
        have main : ∀ y : X4, x = y.e → wAs X.K (.ref ne) i (tsW5 ct i) W E c d σ' H1 := fun y hy => by
          subst hy
          have ec : c = .ref (ct.at4 y) ∧ d = none := by cases y <;> exact hx
          obtain ⟨rfl, rfl⟩ := ec
          have h3 : out X.K ct W σ.length F H as (match wordD5 y.e with
            | some d => Rs.ok (Fl.rt d) cs2
            | none => .no) (oS X.K σ.length E) := h
          rw [wordD54] at h3
          refine ⟨true, T.em y, fun _ a _ => ⟨at_ a, .inl ⟨y, rfl, rfl, fun l H' hn he hH => ?_⟩⟩, fun z => nomatch z⟩
          obtain ⟨g2, ok2⟩ := new_ext ok1 hn he hH
          exact h3 _ H' as1 (g1.trans g2) ok2 _ (.lst upd_same (.cons (.str _) .nil))
        cases x with
        | lines => exact main .lines rfl
        | thing => exact main .thing rfl
        | kind => exact main .kind rfl
        | nonet => exact main .nonet rfl
        | net o =>
          obtain ⟨rfl, dd, fs, rfl, hfs, hlk⟩ := hx
          have h3 : out X.K ct W σ.length F H as (Rs.ok (Fl.rt (.lst [.str (PySem.Str.ofString "net"), atD o])) cs2) (oS X.K σ.length E) := h
          refine ⟨true, N.em, fun _ a _ => ⟨at_ a, .inr ⟨dd, o, rfl, rfl, ⟨fs, hfs, hlk⟩, fun l H' hn he hH => ?_⟩⟩, fun z => nomatch z⟩
          obtain ⟨g2, ok2⟩ := new_ext ok1 hn he hH
          exact h3 _ H' as1 (g1.trans g2) ok2 _ (.lst upd_same (.cons (.str _) (.cons (atD_dv o) .nil)))
    · exact False.elim h
end G
/-! G14: BadNet's facts as truths that the head can reckon. -/
namespace G
open L2 PySem PySem.Spec PyProof.Rows
def oexB (K : PySem.W.Frag) (C : Addr) : Bool := (match K.lookup C with
  | some ⟨.type "type", _, .cls cd, sl⟩ => (match cd.mro, sl.toList with
    | .ref C' :: bm, [_, _, _, _, some (.builtin n), _] => decide (C' = C) && (decide (n = "ValueError.__new__") && (!cd.hasDel && (cd.hasDict && PySem.HandSPX.refsVE bm)))
    | _, _ => false)
  | _ => false) && (decide (PySem.W.findIn K (.ref C) "__setattr__" = some (some (.builtin "object.__setattr__"))) && (decide (PySem.W.subIn K (.ref C) (.type "BaseException") = some true) && (decide (PySem.W.typeIn K (.ref C) = some (.type "type")) && PySem.W.keepIn K (.ref C))))
theorem oexB_ok {K : PySem.W.Frag} {C : Addr} (h : oexB K C = true) : OexC K C := by
  obtain ⟨h0, h⟩ := He.ba h
  obtain ⟨h1, h⟩ := He.ba h
  obtain ⟨h2, h⟩ := He.ba h
  obtain ⟨h3, h4⟩ := He.ba h
  refine ⟨?_, of_decide_eq_true h1, of_decide_eq_true h2, of_decide_eq_true h3, h4⟩
  split at h0
  · rename_i dd cd sl ho
    split at h0
    · rename_i C' bm k0 k1 k2 k3 n k5 hm hs
      obtain ⟨q1, q⟩ := He.ba h0
      obtain ⟨q2, q⟩ := He.ba q
      obtain ⟨q3, q⟩ := He.ba q
      obtain ⟨q4, q5⟩ := He.ba q
      have e1 := of_decide_eq_true q1
      have e2 := of_decide_eq_true q2
      subst e1 e2
      obtain ⟨nm, bs, mro, ns, qn, hd, sn, sub, ab, col, del⟩ := cd
      dsimp only at hm q3 q4
      subst hm
      have e3 : del = false := by simpa using q3
      subst e3 q4
      have hsl : sl = #[k0, k1, k2, k3, some (.builtin "ValueError.__new__"), k5] := by
        obtain ⟨l⟩ := sl
        simp only at hs
        rw [hs]
      subst hsl
      exact ⟨nm, qn, ns, bs, bm, sn, sub, ab, col, dd, k0, k1, k2, k3, k5, ho, q5⟩
    · cases h0
  · cases h0
def neB (K : PySem.W.Frag) (ne : Addr) : Bool := decide (PySem.W.specialIn K (.ref ne) "__getattribute__" = some (some (.builtin "type.__getattribute__"))) && (PySem.W.readsIn K ne (.type "type") && (match PySem.W.findCls K (.ref ne) (.type "type") "__init__" with
  | some (.val v) => decide (v = .builtin "ValueError.__init__")
  | _ => false))
theorem neB_ok {K : PySem.W.Frag} {ne : Addr} (h : neB K ne = true) : NeC K ne := by
  obtain ⟨h1, h⟩ := He.ba h
  obtain ⟨h2, h3⟩ := He.ba h
  refine ⟨of_decide_eq_true h1, h2, ?_⟩
  split at h3
  · rename_i v e
    rw [e, of_decide_eq_true h3]
  · cases h3
def xtnB (K : PySem.W.Frag) : Bool := exCB K (ctOf K).net && ((x4s.all fun z => decide (PySem.W.kitOne K (.ref (ctOf K).net) (.ref ((ctOf K).at4 z)) = some false)) && (decide (PySem.W.kitOne K (.ref (ctOf K).net) (.ref (ctOf K).net) = some true) &&
  (decide (PySem.W.kitOne K (.ref (ctOf K).net) (.type "ValueError") = some true) && (decide (PySem.W.exmOne K (.ref (ctOf K).net) (.ref (He.ga K "NetError")) = some true) && decide (PySem.W.findIn K (.ref (ctOf K).net) "at" = some none)))))
theorem xtnB_ok {K : PySem.W.Frag} (h : xtnB K = true) : XtN K (ctOf K) (He.ga K "NetError") := by
  obtain ⟨h1, h⟩ := He.ba h
  obtain ⟨h2, h⟩ := He.ba h
  obtain ⟨h3, h⟩ := He.ba h
  obtain ⟨h4, h⟩ := He.ba h
  obtain ⟨h5, h6⟩ := He.ba h
  exact ⟨exCB_ok h1, fun z => of_decide_eq_true (x4s_all h2 z), of_decide_eq_true h3, of_decide_eq_true h4, of_decide_eq_true h5, of_decide_eq_true h6⟩
/-- BadNet's __init__ keeps its promise -/
theorem init_ok {P : Program} {w : World} {K : PySem.W.Frag} {mg : Str → Option Value} {base : Heap} {ct : Ct} {x : Str} {params : Arguments} {body : List Stmt} {scope : Scope} {fI : Addr} {fd : FuncData} (F : FunD K "__init__" x params body scope [] [] fI fd) (S : FnScope ["self", "at"] ["self", "at"] scope)
    (hb : ∀ (cdv : Value) (A : Around) (outer : List Env) (s : Shared) (H : Hp) (E : XK), PSs (cxOf (L2.CX P w) P w K mg base ["self", "at"] x scope fI cdv A outer s H E) body (tInit K)) : FnP P w K mg base 1 fI fd ["self", "at"] (spInit K ct.net) := by
  refine F.ok (k := 0) S (fun vs H Q E h => ?_) fun cdv A outer s H vs Q E hr h => ⟨_, hb cdv A outer s H E, init_wish h⟩
  obtain ⟨a, v, rfl, _⟩ := h
  rfl
end G
namespace G
open L2 PySem PySem.Spec PyProof.Rows
/-- the Hook, the statics' table among what it sees (readsIn asks for it) -/
def obsYG (n : Nat) (fa : List He.Fa) (fn : List He.DefD) (ex : PySem.W.Frag → Bool) (g : Addr → Option Obj) : AlX := obsX fa fn ex (He.frG g (cStatics :: He.asD g n))
def hookY (n : Nat) (fa : List He.Fa) (fn : List He.DefD) (ex : PySem.W.Frag → Bool) : PySem.W.Hook where
  α := AlX
  obs := fun s => obsYG n fa fn ex s.heap.get?
  val := fun _ => (He.valD fn, true)
  says := fun _ h => ∃ K : PySem.W.Frag, K.In h ∧ He.SaysD fa fn K ∧ ex K = true
  of := fun _ _ e => ⟨_, He.frG_in, congrArg (fun z : AlX => z.1) e, congrArg (fun z : AlX => z.2) e⟩
  keeps := fun _ _ _ ⟨K, hK, c⟩ k => ⟨K, PySem.W.Frag.In.keeps hK k, c⟩
theorem obsYG_eq {n : Nat} {fa : List He.Fa} {fn : List He.DefD} {ex : PySem.W.Frag → Bool} {g : Addr → Option Obj} {s : Shared} (h : ∀ a, g a = s.heap.get? a) : obsYG n fa fn ex g = (hookY n fa fn ex).obs s := by
  have e : g = s.heap.get? := funext h
  rw [e] <;> rfl
end G
/-! G15: statements nobody reaches; {} == {}; an evaluator by rewriting. -/
namespace G
open L2 PySem PySem.Spec PyProof.Rows
def sNever : En → M Fl := fun _ => M.no
theorem gs_never {X : Cx} {ct : Ct} {W : WX} {st : Stmt} : PS X st (tS X.K ct W sNever) := PS.imp G.ps_never (by
  rintro D σ H ⟨F, as, env, cs, ok, sl, h⟩
  exact h)
def opEqX (b : Bool) : D → D → M D
  | .dic, .dic => M.ret (.bl b)
  | d, e => opEq b d e
def rDic (b : Bool) : R2 := fun x y H Q => ∃ a b' kvs, x = .ref a ∧ y = .ref b' ∧ H a = some (.dK kvs) ∧ H b' = some (.dK kvs) ∧ (kvs.map (·.1)).Nodup ∧ (∀ p ∈ kvs, flatB p.2 = true) ∧ Q (.bl true) H
def rEqX (K : PySem.W.Frag) : R2 := fun x y H Q => rDic true x y H Q ∨ rEqD K x y H Q
theorem op_eqX {X : Cx} (hu : X.A.units + 64 < cLine) : OpR X (compareOp .Eq) (rEqX X.K) := OpR.or (op_eq_dict (Nat.lt_of_le_of_lt (Nat.le_add_right _ _) hu)) (op_eqD hu)
theorem od_eqX {K : PySem.W.Frag} {ct : Ct} : OpD K ct (rEqX K) (opEqX true) := fun W n F H as cs x y d e Q ok hx hy h => by
  unfold opEqX at h
  split at h
  · cases hx with
    | dic h1 =>
      cases hy with
      | dic h2 => exact .inl ⟨_, _, [], rfl, rfl, ok.fh _ _ h1, ok.fh _ _ h2, List.nodup_nil, (fun p hp => by cases hp), end_ok ok (.bl _) h⟩
  · exact .inr (od_eq W n F H as cs x y _ _ Q ok hx hy h)
/-! ### the evaluator -/
set_option checkBinderAnnotations false in
def kk {α β : Type} (r : Rs α) [k : α → Cs → Rs β] : Rs β := match r with
  | .ok a cs => k a cs
  | .ex e cs => .ex e cs
  | .no => .no
theorem kk_c {α β : Type} {r : Rs α} {k k' : α → Cs → Rs β} (h : ∀ a cs, k a cs = k' a cs) : @kk _ _ r k = @kk _ _ r k' := by
  have e : k = k' := funext fun a => funext fun cs => h a cs
  rw [e]
theorem kk_ok {α β : Type} (a : α) (cs : Cs) (k : α → Cs → Rs β) : @kk _ _ (.ok a cs) k = k a cs := rfl
theorem kk_ex {α β : Type} (a : Exn) (cs : Cs) (k : α → Cs → Rs β) : @kk _ _ (.ex a cs) k = .ex a cs := rfl
set_option checkBinderAnnotations false in
def kF (r : Rs Fl) [b : En → M Fl] : Rs Fl := match r with
  | .ok (.nx e) cs => b e cs
  | r => r
theorem kF_nx (e : En) (cs : Cs) (b : En → M Fl) : @kF (.ok (.nx e) cs) b = b e cs := rfl
theorem kF_rt (d : D) (cs : Cs) (b : En → M Fl) : @kF (.ok (.rt d) cs) b = .ok (.rt d) cs := rfl
theorem kF_ex (x : Exn) (cs : Cs) (b : En → M Fl) : @kF (.ex x cs) b = .ex x cs := rfl
set_option checkBinderAnnotations false in
def kI {α : Type} (k : Bool) [a : Rs α] [b : Rs α] : Rs α := if k = true then a else b
theorem kI_t {α : Type} (a b : Rs α) : @kI _ true a b = a := rfl
theorem kI_f {α : Type} (a b : Rs α) : @kI _ false a b = b := rfl
theorem bnd_kk {α β : Type} (m : M α) (k : α → M β) (cs : Cs) : M.bnd m k cs = @kk _ _ (m cs) k := by
  unfold M.bnd kk
  rfl
theorem e_seq (a b : En → M Fl) (env : En) (cs : Cs) : sSeq a b env cs = @kF (a env cs) b := by
  show M.bnd (a env) _ cs = _
  rw [bnd_kk]
  unfold kk kF
  cases a env cs with
  | ok f cs => cases f <;> rfl
  | ex _ _ => rfl
  | no => rfl
theorem e_skip (env : En) (cs : Cs) : sSkip env cs = (Rs.ok (Fl.nx env) cs : Rs Fl) := rfl
set_option checkBinderAnnotations false in
def kT [t : Tg] [env : En] (r : Rs D) : Rs Fl := match r with
  | .ok d cs => (match tgS t d env with
    | some e => .ok (.nx e) cs
    | none => .no)
  | .ex e cs => .ex e cs
  | .no => .no
theorem kT_nm (i : Nat) (env : En) (d : D) (cs : Cs) : @kT (.nm i) env (.ok d cs) = .ok (.nx (env.set i (some d))) cs := rfl
theorem kT_tp2 (i j : Nat) (env : En) (d e : D) (cs : Cs) : @kT (.tp [i, j]) env (.ok (.tup [d, e]) cs) = .ok (.nx ((env.set i (some d)).set j (some e))) cs := rfl
theorem kT_ex (t : Tg) (env : En) (x : Exn) (cs : Cs) : @kT t env (.ex x cs) = .ex x cs := rfl
theorem e_asg (m : En → M D) (t : Tg) (env : En) (cs : Cs) : sAsg m t env cs = @kT t env (m env cs) := by
  show M.bnd (m env) _ cs = _
  rw [bnd_kk]
  unfold kk kT
  cases m env cs with
  | ok d cs =>
    dsimp only
    cases tgS t d env <;> rfl
  | ex _ _ => rfl
  | no => rfl
theorem e_drop (m : En → M D) (env : En) (cs : Cs) : sDrop m env cs = @kk _ _ (m env cs) fun _ cs => .ok (.nx env) cs := bnd_kk ..
theorem e_ret (m : En → M D) (env : En) (cs : Cs) : sRet m env cs = @kk _ _ (m env cs) fun d cs => .ok (.rt d) cs := bnd_kk ..
theorem e_raise (x : Exn) (env : En) (cs : Cs) : sRaise x env cs = .ex x cs := rfl
def nX : D → M Fl
  | .non => M.thr (.net none)
  | .int i => M.thr (.net (some i))
  | _ => M.no
theorem nX_n (cs : Cs) : nX .non cs = .ex (.net none) cs := rfl
theorem nX_i (i : Int) (cs : Cs) : nX (.int i) cs = .ex (.net (some i)) cs := rfl
theorem e_raiseN (m : En → M D) (env : En) (cs : Cs) : sRaiseNet m env cs = @kk _ _ (m env cs) nX := by
  show M.bnd (m env) _ cs = _
  exact bnd_kk ..
theorem thr_e {α : Type} (x : Exn) (cs : Cs) : (M.thr x : M α) cs = .ex x cs := rfl
theorem ret_e {α : Type} (x : α) (cs : Cs) : (M.ret x : M α) cs = .ok x cs := rfl
theorem e_if (t : En → M Bool) (a b : En → M Fl) (env : En) (cs : Cs) : sIf t a b env cs = @kk _ _ (t env cs) fun k cs => @kI _ k (a env cs) (b env cs) := by
  show M.bnd (t env) _ cs = _
  rw [bnd_kk]
  unfold kk
  cases t env cs with
  | ok k cs => cases k <;> rfl
  | ex _ _ => rfl
  | no => rfl
def vB : D → M Bool
  | .bl k => M.ret k
  | _ => M.no
theorem vB_bl (k : Bool) (cs : Cs) : vB (.bl k) cs = .ok k cs := rfl
theorem e_val (m : En → M D) (env : En) (cs : Cs) : bVal m env cs = @kk _ _ (m env cs) vB := by
  show M.bnd (m env) _ cs = _
  exact bnd_kk ..
theorem e_not (t : En → M Bool) (env : En) (cs : Cs) : bNot t env cs = @kk _ _ (t env cs) fun k cs => .ok (!k) cs := bnd_kk ..
theorem e_or (a b : En → M Bool) (env : En) (cs : Cs) : bOr a b env cs = @kk _ _ (a env cs) fun k cs => @kI _ k (.ok true cs) (b env cs) := by
  show M.bnd (a env) _ cs = _
  rw [bnd_kk]
  unfold kk
  cases a env cs with
  | ok k cs => cases k <;> rfl
  | ex _ _ => rfl
  | no => rfl
theorem e_and (a b : En → M Bool) (env : En) (cs : Cs) : bAnd a b env cs = @kk _ _ (a env cs) fun k cs => @kI _ k (b env cs) (.ok false cs) := by
  show M.bnd (a env) _ cs = _
  rw [bnd_kk]
  unfold kk
  cases a env cs with
  | ok k cs => cases k <;> rfl
  | ex _ _ => rfl
  | no => rfl
set_option checkBinderAnnotations false in
def kB {α : Type} (d : D) [k : Bool → Rs α] : Rs α := match d with
  | .bl b => k b
  | _ => .no
theorem kB_bl {α : Type} (b : Bool) (k : Bool → Rs α) : @kB _ (.bl b) k = k b := rfl
theorem e_xand (a b : En → M D) (env : En) (cs : Cs) : xAnd a b env cs = @kk _ _ (a env cs) fun d cs => @kB _ d fun k => @kI _ k (b env cs) (.ok (.bl false) cs) := by
  show M.bnd (a env) _ cs = _
  rw [bnd_kk]
  unfold kk
  cases a env cs with
  | ok d cs =>
    cases d with
    | bl k => cases k <;> rfl
    | _ => rfl
  | ex _ _ => rfl
  | no => rfl
theorem e_xor (a b : En → M D) (env : En) (cs : Cs) : xOr a b env cs = @kk _ _ (a env cs) fun d cs => @kB _ d fun k => @kI _ k (.ok (.bl true) cs) (b env cs) := by
  show M.bnd (a env) _ cs = _
  rw [bnd_kk]
  unfold kk
  cases a env cs with
  | ok d cs =>
    cases d with
    | bl k => cases k <;> rfl
    | _ => rfl
  | ex _ _ => rfl
  | no => rfl
theorem e_xnot (a : En → M D) (env : En) (cs : Cs) : xNot a env cs = @kk _ _ (a env cs) fun d cs => @kB _ d fun k => .ok (.bl !k) cs := by
  show M.bnd (a env) _ cs = _
  rw [bnd_kk]
  unfold kk
  cases a env cs with
  | ok d cs => cases d <;> rfl
  | ex _ _ => rfl
  | no => rfl
def kV (o : Option (Option D)) (cs : Cs) : Rs D := match o with
  | some (some d) => .ok d cs
  | _ => .no
theorem kV_some (d : D) (cs : Cs) : kV (some (some d)) cs = .ok d cs := rfl
theorem e_var (i : Nat) (env : En) (cs : Cs) : xVar i env cs = kV env[i]? cs := by
  unfold xVar kV
  cases env[i]? with
  | none => rfl
  | some o => cases o <;> rfl
theorem e_c (d : D) (env : En) (cs : Cs) : xC d env cs = .ok d cs := rfl
theorem e_bin (f : D → D → M D) (a b : En → M D) (env : En) (cs : Cs) : xBin f a b env cs = @kk _ _ (a env cs) fun x cs => @kk _ _ (b env cs) fun y cs => f x y cs := rfl
theorem e_un (f : D → M D) (a : En → M D) (env : En) (cs : Cs) : xUn f a env cs = @kk _ _ (a env cs) f := rfl
theorem e_chain (f g : D → D → M D) (a b c : En → M D) (env : En) (cs : Cs) : xChain f g a b c env cs = @kk _ _ (a env cs) fun x cs => @kk _ _ (b env cs) fun y cs => @kk _ _ (f x y cs) fun z cs => @kB _ z fun k => @kI _ k (@kk _ _ (c env cs) fun w cs => g y w cs) (.ok (.bl false) cs) := by
  show M.bnd (a env) _ cs = _
  rw [bnd_kk]
  refine kk_c fun x cs => ?_
  rw [bnd_kk]
  refine kk_c fun y cs => ?_
  rw [bnd_kk]
  refine kk_c fun z cs => ?_
  cases z with
  | bl k => cases k <;> rfl
  | _ => rfl
theorem e_nil (env : En) (cs : Cs) : aNil env cs = .ok [] cs := rfl
theorem e_cons (a : En → M D) (r : En → M (List D)) (env : En) (cs : Cs) : aCons a r env cs = @kk _ _ (a env cs) fun d cs => @kk _ _ (r env cs) fun ds cs => .ok (d :: ds) cs := rfl
theorem kI_fun {α : Type} (k : Bool) (a b : M α) (cs : Cs) : (if k = true then a else b) cs = @kI _ k (a cs) (b cs) := by cases k <;> rfl
theorem e_tup (a : En → M (List D)) (env : En) (cs : Cs) : xTup a env cs = @kk _ _ (a env cs) fun ds cs => @kI _ (szOk ds.length) (.ok (.tup ds) cs) .no := by
  show M.bnd (a env) _ cs = _
  rw [bnd_kk]
  refine kk_c fun ds cs => ?_
  rw [kI_fun]
  rfl
theorem e_lst (c : Bool) (a : En → M (List D)) (env : En) (cs : Cs) : xLst c a env cs = @kk _ _ (a env cs) fun ds cs => @kI _ (szOk ds.length) (mkL c ds cs) .no := by
  show M.bnd (a env) _ cs = _
  rw [bnd_kk]
  refine kk_c fun ds cs => ?_
  rw [kI_fun]
  rfl
theorem e_call (g : List D → M D) (a : En → M (List D)) (env : En) (cs : Cs) : xCall g a env cs = @kk _ _ (a env cs) g := rfl
theorem e_callM (g : List D → M D) (a : En → M (List D)) (env : En) (cs : Cs) : xCallM g a env cs = @kk _ _ (a env cs) g := rfl
theorem e_callP (f : List D → Rp) (a : En → M (List D)) (env : En) (cs : Cs) : xCallP f a env cs = @kk _ _ (a env cs) fun ds cs => @kI _ (noRL ds) (up (f ds) cs) .no := by
  show M.bnd (a env) _ cs = _
  rw [bnd_kk]
  refine kk_c fun ds cs => ?_
  rw [kI_fun]
  rfl
def upO (r : Rp) (cs : Cs) : Rs D := match r with
  | .ok (.lst xs) => mkL true xs cs
  | r => up r cs
theorem e_callO (f : List D → Rp) (a : En → M (List D)) (env : En) (cs : Cs) : xCallO f a env cs = @kk _ _ (a env cs) fun ds cs => @kI _ (noRL ds) (upO (f ds) cs) .no := by
  show M.bnd (a env) _ cs = _
  rw [bnd_kk]
  refine kk_c fun ds cs => ?_
  rw [kI_fun]
  congr 1
  unfold upO
  cases f ds with
  | ok d => cases d <;> rfl
  | ex x => rfl
  | no => rfl
theorem up_ok (d : D) (cs : Cs) : up (.ok d) cs = .ok d cs := rfl
theorem up_ex (x : Exn) (cs : Cs) : up (.ex x) cs = .ex x cs := rfl
theorem upO_ok (d : List D) (cs : Cs) : upO (.ok (.lst d)) cs = .ok (.ref cs.length) (cs ++ [d]) := rfl
theorem upO_ex (x : Exn) (cs : Cs) : upO (.ex x) cs = .ex x cs := rfl
theorem mkL_t (d : List D) (cs : Cs) : mkL true d cs = .ok (.ref cs.length) (cs ++ [d]) := rfl
theorem mkL_n (d : List D) (cs : Cs) : mkL false d cs = .ok (.lst d) cs := rfl
/-! operators -/
theorem o_sub (i j : Int) (cs : Cs) : opSub (.int i) (.int j) cs = .ok (.int (i - j)) cs := rfl
theorem o_lt (i j : Int) (cs : Cs) : opLt (.int i) (.int j) cs = .ok (.bl (decide (i < j))) cs := rfl
theorem o_le (i j : Int) (cs : Cs) : opLe (.int i) (.int j) cs = .ok (.bl (decide (i ≤ j))) cs := rfl
theorem o_gt (i j : Int) (cs : Cs) : opGt (.int i) (.int j) cs = .ok (.bl (decide (j < i))) cs := rfl
theorem o_ge (i j : Int) (cs : Cs) : opGe (.int i) (.int j) cs = .ok (.bl (decide (j ≤ i))) cs := rfl
theorem o_div {i j : Int} (h : 0 < j) (h2 : j < 1073741824) (cs : Cs) : opDiv (.int i) (.int j) cs = .ok (.int (i / j)) cs := by
  unfold opDiv iOp
  simp [h, h2, M.ret]
theorem o_mod {i j : Int} (h : 0 < j) (cs : Cs) : opMod (.int i) (.int j) cs = .ok (.int (i % j)) cs := by
  unfold opMod iOp
  simp [h, M.ret]
theorem o_add (c : Bool) (i j : Int) (cs : Cs) : opAdd c (.int i) (.int j) cs = .ok (.int (i + j)) cs := rfl
theorem o_addS (c : Bool) (i j : Str) (cs : Cs) : opAdd c (.str i) (.str j) cs = @kI _ (szOk (i.length + j.length)) (.ok (.str (i ++ j)) cs) .no := by
  show (if _ then _ else _ : M D) cs = _
  rw [kI_fun]
  rfl
theorem o_addT (c : Bool) (i j : List D) (cs : Cs) : opAdd c (.tup i) (.tup j) cs = @kI _ (szOk (i.length + j.length)) (.ok (.tup (i ++ j)) cs) .no := by
  show (if _ then _ else _ : M D) cs = _
  rw [kI_fun]
  rfl
theorem o_addL (c : Bool) (i j : List D) (cs : Cs) : opAdd c (.lst i) (.lst j) cs = @kI _ (szOk (i.length + j.length)) (mkL c (i ++ j) cs) .no := rfl
theorem o_neg (i : Int) (cs : Cs) : opNeg (.int i) cs = .ok (.int (-i)) cs := rfl
theorem o_mulk {c : Bool} {i j : Int} (h : -(2 ^ 64) < j) (h2 : j < 2 ^ 64) (cs : Cs) : opMul c (.int i) (.int j) cs = .ok (.int (i * j)) cs := by
  show (if _ then _ else _ : M D) cs = _
  rw [if_pos (decide_eq_true (.inr ⟨h, h2⟩))]
  rfl
theorem o_mulX {c : Bool} {i j : Int} (h : -(2 ^ 64) < j) (h2 : j < 2 ^ 64) (cs : Cs) : opMulX c (.int i) (.int j) cs = .ok (.int (i * j)) cs := o_mulk (c := c) h h2 cs
theorem o_mulL {c : Bool} {xs : List D} {j : Int} (h : 0 ≤ j) (h2 : j ≤ 1000000) (h3 : xs.length * j.toNat ≤ 1000000) (cs : Cs) : opMul c (.lst xs) (.int j) cs = mkL c (List.replicate j.toNat xs).flatten cs := by
  show (if _ then _ else _ : Rs D) = _
  rw [if_pos (by simp only [Bool.and_eq_true, decide_eq_true_eq, szOk]; omega)]
theorem o_mulXL {c : Bool} {xs : List D} {j : Int} (h : 0 ≤ j) (h2 : j ≤ 1000000) (h3 : xs.length * j.toNat ≤ 1000000) (cs : Cs) : opMulX c (.lst xs) (.int j) cs = mkL c (List.replicate j.toNat xs).flatten cs := o_mulL h h2 h3 cs
theorem o_isN (b : Bool) (cs : Cs) : opIsN b .non .non cs = .ok (.bl b) cs := rfl
theorem o_isNI (b : Bool) (i : Int) (cs : Cs) : opIsN b (.int i) .non cs = .ok (.bl !b) cs := rfl
theorem o_isNT (b : Bool) (i : List D) (cs : Cs) : opIsN b (.tup i) .non cs = .ok (.bl !b) cs := rfl
theorem o_isNL (b : Bool) (i : List D) (cs : Cs) : opIsN b (.lst i) .non cs = .ok (.bl !b) cs := rfl
theorem o_isNR (b : Bool) (i : Nat) (cs : Cs) : opIsN b (.ref i) .non cs = .ok (.bl !b) cs := rfl
theorem o_isNB (b : Bool) (i : Bool) (cs : Cs) : opIsN b (.bl i) .non cs = .ok (.bl !b) cs := rfl
theorem o_isNS (b : Bool) (i : Str) (cs : Cs) : opIsN b (.str i) .non cs = .ok (.bl !b) cs := rfl
theorem o_is (T : Ty) (d : D) (cs : Cs) : opIs T d cs = .ok (.bl (isD T d)) cs := rfl
def kO {α : Type} (o : Option α) (cs : Cs) : Rs α := match o with
  | some a => .ok a cs
  | none => .no
theorem kO_some {α : Type} (a : α) (cs : Cs) : kO (some a) cs = .ok a cs := rfl
theorem ofO_e {α : Type} (o : Option α) (cs : Cs) : M.ofO o cs = kO o cs := by cases o <;> rfl
theorem o_ixT (xs : List D) (i : Int) (cs : Cs) : opIx (.tup xs) (.int i) cs = kO (atI xs i) cs := ofO_e _ _
theorem o_ixL (xs : List D) (i : Int) (cs : Cs) : opIx (.lst xs) (.int i) cs = kO (atI xs i) cs := ofO_e _ _
theorem o_ixS (xs : List Int) (i : Int) (cs : Cs) : opIx (.scr xs) (.int i) cs = kO (atI (xs.map D.int) i) cs := ofO_e _ _
theorem o_ixR {xs : List D} {a : Nat} {cs : Cs} (h : cs[a]? = some xs) (i : Int) : opIx (.ref a) (.int i) cs = kO (atI xs i) cs := by
  show (match cs[a]? with
    | some xs => M.ofO (atI xs i) cs
    | none => .no) = _
  rw [h]
  exact ofO_e _ _
theorem at_0 (x : D) (xs : List D) : atI (x :: xs) 0 = some x := by
  unfold atI ixN
  rw [if_pos (by omega), if_pos (by simp only [List.length_cons]; omega)]
  rfl
theorem at_1 (x y : D) (xs : List D) : atI (x :: y :: xs) 1 = some y := by
  unfold atI ixN
  have h : (1 : Int) < ((x :: y :: xs).length : Int) := by simp only [List.length_cons]; omega
  rw [if_pos (by omega), if_pos (by simp only [List.length_cons]; omega)]
  rfl
theorem at_k {xs : List D} {i : Int} {k : Nat} {x : D} (hi : i = (k : Int)) (h : xs[k]? = some x) : atI xs i = some x := by
  have hk := (List.getElem?_eq_some_iff.mp h).1
  subst hi
  unfold atI ixN
  rw [if_pos (by omega), if_pos (by omega)]
  simpa using h
theorem at_last {xs : List D} {x : D} (h : xs.getLast? = some x) : atI xs (-1) = some x := by
  have hne : xs ≠ [] := fun e => by rw [e] at h; cases h
  have hl : 0 < xs.length := List.length_pos_iff.mpr hne
  rw [List.getLast?_eq_getElem?] at h
  unfold atI ixN
  rw [if_neg (by omega), if_pos (by omega)]
  rw [← h]
  show xs[_]? = _
  congr 1
  omega
theorem o_lenL (xs : List D) (cs : Cs) : opLen [.lst xs] cs = .ok (.int xs.length) cs := rfl
theorem o_lenT (xs : List D) (cs : Cs) : opLen [.tup xs] cs = .ok (.int xs.length) cs := rfl
theorem o_lenC (xs : List Int) (cs : Cs) : opLen [.scr xs] cs = .ok (.int xs.length) cs := by
  show Rs.ok (D.int ((xs.map D.int).length : Int)) cs = _
  rw [List.length_map]
theorem o_lenS (xs : Str) (cs : Cs) : opLen [.str xs] cs = @kI _ (szOk xs.length) (.ok (.int xs.length) cs) .no := by
  show (if _ then _ else _ : M D) cs = _
  rw [kI_fun]
  rfl
theorem o_lenR {xs : List D} {a : Nat} {cs : Cs} (h : cs[a]? = some xs) : opLen [.ref a] cs = .ok (.int xs.length) cs := by
  show (match cs[a]? with
    | some xs => Rs.ok (D.int xs.length) cs
    | none => .no) = _
  rw [h]
theorem o_max2 (i j : Int) (cs : Cs) : opMax2 [.int i, .int j] cs = .ok (.int (max i j)) cs := by
  show Rs.ok (D.int (if j > i then j else i)) cs = _
  congr 2
  omega
theorem o_min2 (i j : Int) (cs : Cs) : opMin2 [.int i, .int j] cs = .ok (.int (min i j)) cs := by
  show Rs.ok (D.int (if j < i then j else i)) cs = _
  congr 2
  omega
theorem o_intB (b : Bool) (cs : Cs) : opInt [.bl b] cs = .ok (.int (if b then 1 else 0)) cs := rfl
theorem o_intI (b : Int) (cs : Cs) : opInt [.int b] cs = .ok (.int b) cs := rfl
theorem o_listL (c : Bool) (xs : List D) (cs : Cs) : opList c [.lst xs] cs = mkL c xs cs := rfl
theorem o_listT (c : Bool) (xs : List D) (cs : Cs) : opList c [.tup xs] cs = mkL c xs cs := rfl
theorem o_listC (c : Bool) (xs : List Int) (cs : Cs) : opList c [.scr xs] cs = mkL c (xs.map .int) cs := rfl
theorem o_listR (c : Bool) {xs : List D} {a : Nat} {cs : Cs} (h : cs[a]? = some xs) : opList c [.ref a] cs = mkL c xs cs := by
  show (match cs[a]? with
    | some xs => mkL c xs cs
    | none => .no) = _
  rw [h]
theorem o_tupL (xs : List D) (cs : Cs) : opTuple [.lst xs] cs = .ok (.tup xs) cs := rfl
theorem o_rgL {c : Bool} {n : Nat} (h : n ≤ 1000000) (cs : Cs) : opRg false c (.int (n : Int)) cs = mkL c ((List.range n).map fun i => .int (i : Nat)) cs := by
  have e : rgOk 0 (n : Int) = true := by
    unfold rgOk szOk
    simp only [Bool.and_eq_true, decide_eq_true_eq]
    omega
  simp only [opRg, e, if_true, rngD]
  simp
theorem o_eqI (b : Bool) (i j : Int) (cs : Cs) : opEq b (.int i) (.int j) cs = .ok (.bl (if b = true then decide (i = j) else !decide (i = j))) cs := by
  show Rs.ok (D.bl (if b = true then PyData.eqv (.int i) (.int j) else !PyData.eqv (.int i) (.int j))) cs = _
  have e : PyData.eqv (.int i) (.int j) = decide (i = j) := by
    unfold PyData.eqv
    by_cases h : i = j <;> simp [h]
  rw [e]
set_option checkBinderAnnotations false in
def kFor [t : Tg] [b : En → M Fl] [env : En] (r : Rs It0) : Rs Fl := @kk _ _ r fun i => forGo i.live t b i.items env
theorem e_for (it : En → M It0) (t : Tg) (b : En → M Fl) (env : En) (cs : Cs) : sFor it t b env cs = @kFor t b env (it env cs) := bnd_kk ..
theorem e_itSeq (m : En → M D) (env : En) (cs : Cs) : itSeq m env cs = @kk _ _ (m env cs) fun d cs => @kk _ _ (kO (seqOf cs d) cs) fun xs cs => .ok ⟨xs, liveOf xs d⟩ cs := by
  show M.bnd (m env) _ cs = _
  rw [bnd_kk]
  refine kk_c fun d cs => ?_
  cases seqOf cs d <;> rfl
def vT : D → M It0
  | .tup xs => M.ret ⟨xs, fun _ => true⟩
  | _ => M.no
theorem vT_t (xs : List D) (cs : Cs) : vT (.tup xs) cs = .ok ⟨xs, fun _ => true⟩ cs := rfl
theorem e_itTup (m : En → M D) (env : En) (cs : Cs) : itTup m env cs = @kk _ _ (m env cs) vT := by
  show M.bnd (m env) _ cs = _
  exact bnd_kk ..
theorem e_itR1 (m : En → M D) (env : En) (cs : Cs) : itR1 m env cs = @kk _ _ (m env cs) opR1 := bnd_kk ..
theorem e_itR2 (a b : En → M D) (env : En) (cs : Cs) : itR2 a b env cs = @kk _ _ (a env cs) fun x cs => @kk _ _ (b env cs) fun y cs => opR2 x y cs := rfl
theorem o_R1 {n : Nat} (h : n ≤ 1000000) (cs : Cs) : opR1 (.int (n : Int)) cs = .ok ⟨(List.range n).map fun i => .int (i : Nat), fun _ => true⟩ cs := by
  have e : small62 (n : Int) = true := by
    unfold small62
    simp only [decide_eq_true_eq]
    omega
  simp only [opR1, e, if_true, rngD]
  simp [M.ret]
theorem seq_lst (cs : Cs) (xs : List D) : seqOf cs (.lst xs) = some xs := rfl
theorem seq_scr (cs : Cs) (xs : List Int) : seqOf cs (.scr xs) = some (xs.map .int) := rfl
theorem seq_ref (cs : Cs) (i : Nat) : seqOf cs (.ref i) = cs[i]? := rfl
theorem noRL_nil : noRL [] = true := rfl
theorem noRL_cons (d : D) (ds : List D) : noRL (d :: ds) = (noR d && noRL ds) := rfl
theorem noR_non : noR .non = true := rfl
theorem noR_bl (b : Bool) : noR (.bl b) = true := rfl
theorem noR_int (b : Int) : noR (.int b) = true := rfl
theorem noR_str (b : Str) : noR (.str b) = true := rfl
theorem noR_dic : noR .dic = true := rfl
theorem noR_scr (b : List Int) : noR (.scr b) = true := rfl
theorem noR_tup (b : List D) : noR (.tup b) = noRL b := rfl
theorem noR_lst (b : List D) : noR (.lst b) = noRL b := rfl
theorem noR_ref (b : Nat) : noR (.ref b) = false := rfl
theorem isD_nii : isD .int .non = false := rfl
theorem startE_e (k : Nat) (ds : List D) : startE k ds = ds.map some ++ List.replicate (k - ds.length) none := rfl
/-- a def's worth -/
def kP (r : Rs Fl) : Rp := match r with
  | .ok (.rt d) cs => (match res cs d with
    | some p => .ok p
    | none => .no)
  | .ok (.nx _) _ => .ok .non
  | .ok _ _ => .no
  | .ex x _ => .ex x
  | .no => .no
theorem e_runP (c : En → M Fl) (k : Nat) (ds : List D) : runP c k ds = kP (c (startE k ds) []) := rfl
def kQ (o : Option D) : Rp := match o with
  | some p => .ok p
  | none => .no
theorem kQ_some (d : D) : kQ (some d) = .ok d := rfl
theorem kP_rt (d : D) (cs : Cs) : kP (.ok (.rt d) cs) = kQ (res cs d) := by
  show (match res cs d with
    | some p => Rp.ok p
    | none => .no) = _
  cases res cs d <;> rfl
theorem kP_nx (e : En) (cs : Cs) : kP (.ok (.nx e) cs) = .ok .non := rfl
theorem kP_ex (e : Exn) (cs : Cs) : kP (.ex e cs) = .ex e := rfl
theorem res_bl (cs : Cs) (b : Bool) : res cs (.bl b) = some (.bl b) := rfl
theorem res_int (cs : Cs) (b : Int) : res cs (.int b) = some (.int b) := rfl
theorem res_str (cs : Cs) (b : Str) : res cs (.str b) = some (.str b) := rfl
theorem res_non (cs : Cs) : res cs .non = some .non := rfl
end G
namespace G
open L2 PySem PySem.Spec PyProof.Rows
theorem kFor_ok (t : Tg) (b : En → M Fl) (env : En) (xs : List D) (live : Cs → Bool) (cs : Cs) : @kFor t b env (.ok ⟨xs, live⟩ cs) = forGo live t b xs env cs := rfl
theorem o_eqIt (i j : Int) (cs : Cs) : opEq true (.int i) (.int j) cs = .ok (.bl (decide (i = j))) cs := o_eqI true i j cs
theorem o_eqIf (i j : Int) (cs : Cs) : opEq false (.int i) (.int j) cs = .ok (.bl (!decide (i = j))) cs := o_eqI false i j cs
/-- a def's worth: one that hands in and out; one that returns an own list -/
def kM (r : Rs Fl) : Rs D := match r with
  | .ok (.rt d) cs => .ok d cs
  | .ok (.nx _) cs => .ok .non cs
  | .ok _ _ => .no
  | .ex x cs => .ex x cs
  | .no => .no
theorem e_runM (c : En → M Fl) (k : Nat) (ds : List D) (cs : Cs) : runM c k ds cs = kM (c (startE k ds) cs) := by
  show M.bnd (c (startE k ds)) _ cs = _
  rw [bnd_kk]
  unfold kk kM
  cases c (startE k ds) cs with
  | ok f cs => cases f <;> rfl
  | ex _ _ => rfl
  | no => rfl
theorem kM_rt (d : D) (cs : Cs) : kM (.ok (.rt d) cs) = .ok d cs := rfl
theorem kM_nx (d : En) (cs : Cs) : kM (.ok (.nx d) cs) = .ok .non cs := rfl
theorem kM_ex (d : Exn) (cs : Cs) : kM (.ex d cs) = .ex d cs := rfl
def kPO (r : Rs Fl) : Rp := match r with
  | .ok (.rt (.ref i)) cs => (match cs[i]? with
    | some xs => if noRL xs = true then .ok (.lst xs) else .no
    | none => .no)
  | .ex x _ => .ex x
  | _ => .no
theorem e_runO (c : En → M Fl) (k : Nat) (ds : List D) : runO c k ds = kPO (c (startE k ds) []) := by
  unfold runO kPO
  rfl
theorem kPO_ok {i : Nat} {cs : Cs} {xs : List D} (h : cs[i]? = some xs) (hn : noRL xs = true) : kPO (.ok (.rt (.ref i)) cs) = .ok (.lst xs) := by
  show (match cs[i]? with
    | some xs => if noRL xs = true then Rp.ok (.lst xs) else .no
    | none => .no) = _
  rw [h]
  show (if noRL xs = true then Rp.ok (.lst xs) else .no) = _
  rw [if_pos hn]
theorem kPO_ex (d : Exn) (cs : Cs) : kPO (.ex d cs) = .ex d := rfl
/-- the first items of a loop gone over, by an invariant -/
theorem forGo_pre {live : Cs → Bool} {t : Tg} {b : En → M Fl} (I : Nat → En → Cs → Prop) {ys r : List D}
    (hl : ∀ i env cs, I i env cs → live cs = true)
    (hs : ∀ i x env cs, ys[i]? = some x → I i env cs → ∃ env1, tgS t x env = some env1 ∧ ∃ e' cs', b env1 cs = .ok (.nx e') cs' ∧ I (i + 1) e' cs') {env : En} {cs : Cs} (h0 : I 0 env cs) :
    ∃ e' cs', forGo live t b (ys ++ r) env cs = forGo live t b r e' cs' ∧ I ys.length e' cs' := by
  have gen : ∀ (zs : List D) (k : Nat), ys.drop k = zs → k ≤ ys.length → ∀ {env : En} {cs : Cs}, I k env cs → ∃ e' cs', forGo live t b (zs ++ r) env cs = forGo live t b r e' cs' ∧ I ys.length e' cs' := fun zs => by
    induction zs with
    | nil =>
      intro k e hk env cs h
      have ek := drop_nil e hk
      exact ⟨env, cs, rfl, by rw [← ek]; exact h⟩
    | cons y zs ih =>
      intro k e hk env cs h
      obtain ⟨hx, hr, hlt⟩ := getElem_drop e
      obtain ⟨env1, h1, e', cs', h2, h3⟩ := hs k y env cs hx h
      obtain ⟨e2, cs2, h4, h5⟩ := ih (k + 1) hr hlt h3
      refine ⟨e2, cs2, ?_, h5⟩
      show guardM live (match tgS t y env with
        | some env1 => M.bnd (b env1) _
        | none => M.no) cs = _
      unfold guardM
      rw [if_pos (hl _ _ _ h), h1]
      show M.bnd (b env1) _ cs = _
      rw [M.bnd_ok h2]
      exact h4
  exact gen ys 0 rfl (Nat.zero_le _) h0
/-- one step of a loop -/
theorem forGo_nx {live : Cs → Bool} {t : Tg} {b : En → M Fl} {x : D} {r : List D} {env env1 e : En} {cs cs1 : Cs} (hl : live cs = true) (ht : tgS t x env = some env1) (hb : b env1 cs = .ok (.nx e) cs1) : forGo live t b (x :: r) env cs = forGo live t b r e cs1 := by
  show guardM live (match tgS t x env with
    | some env1 => M.bnd (b env1) _
    | none => M.no) cs = _
  unfold guardM
  rw [if_pos hl, ht]
  show M.bnd (b env1) _ cs = _
  rw [M.bnd_ok hb]
theorem forGo_rt {live : Cs → Bool} {t : Tg} {b : En → M Fl} {x d : D} {r : List D} {env env1 : En} {cs cs1 : Cs} (hl : live cs = true) (ht : tgS t x env = some env1) (hb : b env1 cs = .ok (.rt d) cs1) : forGo live t b (x :: r) env cs = .ok (.rt d) cs1 := by
  show guardM live (match tgS t x env with
    | some env1 => M.bnd (b env1) _
    | none => M.no) cs = _
  unfold guardM
  rw [if_pos hl, ht]
  show M.bnd (b env1) _ cs = _
  rw [M.bnd_ok hb]
  rfl
theorem forGo_ex {live : Cs → Bool} {t : Tg} {b : En → M Fl} {x : D} {z : Exn} {r : List D} {env env1 : En} {cs cs1 : Cs} (hl : live cs = true) (ht : tgS t x env = some env1) (hb : b env1 cs = .ex z cs1) : forGo live t b (x :: r) env cs = .ex z cs1 := by
  show guardM live (match tgS t x env with
    | some env1 => M.bnd (b env1) _
    | none => M.no) cs = _
  unfold guardM
  rw [if_pos hl, ht]
  show M.bnd (b env1) _ cs = _
  rw [M.bnd_ex hb]
theorem forGo_end {live : Cs → Bool} {t : Tg} {b : En → M Fl} {env : En} {cs : Cs} (hl : live cs = true) : forGo live t b [] env cs = .ok (.nx env) cs := by
  show guardM live _ cs = _
  unfold guardM
  rw [if_pos hl]
  rfl
theorem live_lst (xs ys : List D) (cs : Cs) : liveOf xs (.lst ys) cs = true := rfl
theorem tgS_nm (i : Nat) (d : D) (env : En) : tgS (.nm i) d env = some (env.set i (some d)) := rfl
theorem tgS_tp2 (i j : Nat) (d e : D) (env : En) : tgS (.tp [i, j]) (.tup [d, e]) env = some ((env.set i (some d)).set j (some e)) := rfl
theorem isd_int (i : Int) : isD .int (.int i) = true := rfl
theorem isd_intb (i : Bool) : isD .int (.bl i) = true := rfl
theorem isd_bool (i : Int) : isD .bool (.int i) = false := rfl
theorem isd_boolb (i : Bool) : isD .bool (.bl i) = true := rfl
theorem isd_tup (i : List D) : isD .tuple (.tup i) = true := rfl
theorem isd_lst (i : List D) : isD .list (.lst i) = true := rfl
theorem isd_ref (i : Nat) : isD .list (.ref i) = true := rfl
end G
/-! G16: == of plain data; small tools for the plain part. -/
namespace G
open L2 PySem PySem.Spec PyProof.Rows
def okD : Nat → D → Bool
  | _, .non => true
  | _, .bl _ => true
  | _, .int _ => true
  | _, .str x => PyData.canLay0 (.str x)
  | n + 1, .tup xs => xs.all (okD n)
  | n + 1, .lst xs => xs.all (okD n)
  | _, _ => false
def pyD (d : D) : PyData := (pyG (fun _ => none) d).getD .none
theorem okD_py : ∀ (n : Nat) (d : D), okD n d = true → (∀ r, pyG r d = some (pyD d)) ∧ (pyD d).canLay0 = true ∧ (pyD d).depth ≤ n := fun n => by
  induction n with
  | zero =>
    intro d h
    cases d with
    | non | bl _ | int _ => exact ⟨fun r => rfl, rfl, Nat.le_refl _⟩
    | str x => exact ⟨fun r => rfl, h, Nat.le_refl _⟩
    | tup xs | lst xs | ref i | dic | scr ns => cases h
  | succ n ih =>
    intro d h
    have lists : ∀ xs : List D, xs.all (okD n) = true → ∃ ps, (∀ r, pyGL r xs = some ps) ∧ PyData.canLayAll0 ps = true ∧ PyData.depthAll ps ≤ n := fun xs => by
      induction xs with
      | nil => exact fun _ => ⟨[], fun r => rfl, rfl, by simp [PyData.depthAll]⟩
      | cons x xs ih2 =>
        intro h
        rw [List.all_cons, Bool.and_eq_true] at h
        obtain ⟨h1, h2⟩ := h
        obtain ⟨a1, a2, a3⟩ := ih x h1
        obtain ⟨ps, b1, b2, b3⟩ := ih2 h2
        refine ⟨pyD x :: ps, fun r => ?_, ?_, ?_⟩
        · show (match pyG r x, pyGL r xs with
            | some p, some ps => some (p :: ps)
            | _, _ => none) = _
          rw [a1, b1]
        · simp [PyData.canLayAll0, a2, b2]
        · simp only [PyData.depthAll]
          omega
    cases d with
    | non | bl _ | int _ => exact ⟨fun r => rfl, rfl, Nat.zero_le _⟩
    | str x => exact ⟨fun r => rfl, h, Nat.zero_le _⟩
    | tup xs =>
      obtain ⟨ps, b1, b2, b3⟩ := lists xs h
      have e : ∀ r, pyG r (.tup xs) = some (.tuple ps) := fun r => by
        show (pyGL r xs).map _ = _
        rw [b1]
        rfl
      have e2 : pyD (.tup xs) = .tuple ps := by
        unfold pyD
        rw [e]
        rfl
      rw [e2]
      refine ⟨e, ?_, ?_⟩
      · simpa [PyData.canLay0] using b2
      · simp only [PyData.depth]
        omega
    | lst xs =>
      obtain ⟨ps, b1, b2, b3⟩ := lists xs h
      have e : ∀ r, pyG r (.lst xs) = some (.list ps) := fun r => by
        show (pyGL r xs).map _ = _
        rw [b1]
        rfl
      have e2 : pyD (.lst xs) = .list ps := by
        unfold pyD
        rw [e]
        rfl
      rw [e2]
      refine ⟨e, ?_, ?_⟩
      · simpa [PyData.canLay0] using b2
      · simp only [PyData.depth]
        omega
    | ref i | dic | scr ns => cases h
theorem eq_ok {d e : D} {n m : Nat} (hd : okD n d = true) (he : okD m e = true) (hn : n ≤ 64) (hm : m ≤ 64) (b : Bool) (cs : Cs) : opEq b d e cs = .ok (.bl (if b = true then PyData.eqv (pyD d) (pyD e) else !PyData.eqv (pyD d) (pyD e))) cs := by
  obtain ⟨a1, a2, a3⟩ := okD_py n d hd
  obtain ⟨b1, b2, b3⟩ := okD_py m e he
  unfold opEq py
  rw [a1, b1]
  have s1 : SeqAt.shaped (pyD d) = true := by
    unfold SeqAt.shaped
    rw [a2, Bool.true_and]
    exact decide_eq_true (by omega)
  have s2 : SeqAt.shaped (pyD e) = true := by
    unfold SeqAt.shaped
    rw [b2, Bool.true_and]
    exact decide_eq_true (by omega)
  simp only [s1, s2, Bool.and_self, if_true]
mutual
theorem eqv_refl : ∀ p : PyData, p.canLay0 = true → PyData.eqv p p = true
  | .none, _ => rfl
  | .bool a, _ => by simp [PyData.eqv]
  | .int a, _ => by simp [PyData.eqv]
  | .str a, _ => by simp [PyData.eqv]
  | .list xs, h => by
    simp only [PyData.eqv]
    exact eqvAll_refl xs (by simpa [PyData.canLay0] using h)
  | .tuple xs, h => by
    simp only [PyData.eqv]
    exact eqvAll_refl xs (by simpa [PyData.canLay0] using h)
  | .dict _, h => by simp [PyData.canLay0] at h
theorem eqvAll_refl : ∀ ps : List PyData, PyData.canLayAll0 ps = true → PyData.eqvAll ps ps = true
  | [], _ => by simp [PyData.eqvAll]
  | p :: ps, h => by
    simp only [PyData.canLayAll0, Bool.and_eq_true] at h
    simp only [PyData.eqvAll, Bool.and_eq_true]
    exact ⟨eqv_refl p h.1, eqvAll_refl ps h.2⟩
end
theorem eq_refl {d : D} {n : Nat} (hd : okD n d = true) (hn : n ≤ 64) (cs : Cs) : opEq true d d cs = .ok (.bl true) cs := by
  rw [eq_ok hd hd hn hn, if_pos rfl, eqv_refl _ (okD_py n d hd).2.1]
theorem okD_net (N : Net) : okD 3 (netD N) = true := by
  show (N.map fun xs => D.lst (layD xs)).all (okD 2) = true
  rw [List.all_eq_true]
  intro x hx
  obtain ⟨L, _, rfl⟩ := List.mem_map.mp hx
  show (layD L).all (okD 1) = true
  rw [List.all_eq_true]
  intro y hy
  obtain ⟨p, _, rfl⟩ := List.mem_map.mp hy
  rfl
theorem okD_mono : ∀ (n : Nat) (d : D), okD n d = true → okD (n + 1) d = true := fun n => by
  induction n with
  | zero =>
    intro d h
    cases d with
    | non | bl _ | int _ => rfl
    | str x => exact h
    | tup xs | lst xs | ref i | dic | scr ns => cases h
  | succ n ih =>
    intro d h
    cases d with
    | non | bl _ | int _ => rfl
    | str x => exact h
    | tup xs | lst xs =>
      have h2 : xs.all (okD n) = true := h
      show xs.all (okD (n + 1)) = true
      rw [List.all_eq_true] at h2 ⊢
      exact fun x hx => ih x (h2 x hx)
    | ref i | dic | scr ns => cases h
theorem noRL_all : ∀ xs : List D, noRL xs = xs.all noR
  | [] => rfl
  | x :: xs => by
    show (noR x && noRL xs) = _
    rw [noRL_all xs, List.all_cons]
theorem okD_noR : ∀ (n : Nat) (d : D), okD n d = true → noR d = true := fun n => by
  induction n with
  | zero =>
    intro d h
    cases d with
    | non | bl _ | int _ | str _ => rfl
    | tup xs | lst xs | ref i | dic | scr ns => cases h
  | succ n ih =>
    intro d h
    cases d with
    | non | bl _ | int _ | str _ => rfl
    | tup xs | lst xs =>
      have h2 : xs.all (okD n) = true := h
      show noRL xs = true
      rw [noRL_all, List.all_eq_true]
      rw [List.all_eq_true] at h2
      exact fun x hx => ih x (h2 x hx)
    | ref i | dic | scr ns => cases h
mutual
theorem rsG_noR : ∀ (d : D) (r : Nat → Option D), noR d = true → rsG r d = some d
  | .non, _, _ | .bl _, _, _ | .int _, _, _ | .str _, _, _ | .dic, _, _ | .scr _, _, _ => rfl
  | .tup xs, r, h => by
    show (rsGL r xs).map _ = _
    rw [rsGL_noR xs r h]
    rfl
  | .lst xs, r, h => by
    show (rsGL r xs).map _ = _
    rw [rsGL_noR xs r h]
    rfl
  | .ref _, _, h => by cases h
theorem rsGL_noR : ∀ (xs : List D) (r : Nat → Option D), noRL xs = true → rsGL r xs = some xs
  | [], _, _ => rfl
  | x :: xs, r, h => by
    obtain ⟨h1, h2⟩ := Bool.and_eq_true_iff.mp (show (noR x && noRL xs) = true from h)
    show (match rsG r x, rsGL r xs with
      | some p, some ps => some (p :: ps)
      | _, _ => none) = _
    rw [rsG_noR x r h1, rsGL_noR xs r h2]
end
set_option checkBinderAnnotations false in
def kL (r : Rs Fl) [k : En → M Fl] : Rs Fl := match r with
  | .ok (.nx e) cs => k e cs
  | .ok (.ct e) cs => k e cs
  | .ok (.bk e) cs => .ok (.nx e) cs
  | .ok (.rt d) cs => .ok (.rt d) cs
  | .ex x cs => .ex x cs
  | .no => .no
theorem kL_nx (e : En) (cs : Cs) (k : En → M Fl) : @kL (.ok (.nx e) cs) k = k e cs := rfl
theorem kL_rt (e : D) (cs : Cs) (k : En → M Fl) : @kL (.ok (.rt e) cs) k = .ok (.rt e) cs := rfl
theorem kL_ex (e : Exn) (cs : Cs) (k : En → M Fl) : @kL (.ex e cs) k = .ex e cs := rfl
set_option checkBinderAnnotations false in
def kS (o : Option En) [k : En → Rs Fl] : Rs Fl := match o with
  | some e => k e
  | none => .no
theorem kS_some (e : En) (k : En → Rs Fl) : @kS (some e) k = k e := rfl
theorem e_fgo_cons (live : Cs → Bool) (t : Tg) (b : En → M Fl) (x : D) (r : List D) (env : En) (cs : Cs) : forGo live t b (x :: r) env cs = @kI _ (live cs) (@kS (tgS t x env) fun env1 => @kL (b env1 cs) (forGo live t b r)) .no := by
  show guardM live (match tgS t x env with
    | some env1 => M.bnd (b env1) _
    | none => M.no) cs = _
  unfold guardM kI
  congr 1
  cases tgS t x env with
  | none => rfl
  | some e =>
    show M.bnd (b e) _ cs = _
    rw [bnd_kk]
    unfold kk kS kL
    dsimp only
    cases b e cs with
    | ok f cs => cases f <;> rfl
    | ex _ _ => rfl
    | no => rfl
theorem e_fgo_nil (live : Cs → Bool) (t : Tg) (b : En → M Fl) (env : En) (cs : Cs) : forGo live t b [] env cs = @kI _ (live cs) (.ok (.nx env) cs) .no := rfl
theorem res_n {d : D} (cs : Cs) (h : noR d = true) : res cs d = some d := rsG_noR d _ h
end G
namespace G
open L2 PySem PySem.Spec PyProof.Rows
theorem intsOf_map (ns : List Int) : intsOf (ns.map D.int) = some ns := by
  induction ns with
  | nil => rfl
  | cons i r ih =>
    show (intsOf (r.map D.int)).map (i :: ·) = _
    rw [ih]
    rfl
theorem o_sum (ns : List Int) (cs : Cs) : opSum [.lst (ns.map D.int)] cs = .ok (.int ns.sum) cs := by
  show (match (some (ns.map D.int)).bind intsOf with
    | some ns => Rs.ok (D.int ns.sum) cs
    | none => .no) = _
  rw [Option.bind_some, intsOf_map]
theorem at_mod {xs : List D} {n : Nat} (h : xs.length = n) (hn : 0 < n) (c : Int) : ∃ x ∈ xs, atI xs (c % (n : Nat)) = some x := by
  have h1 : 0 ≤ c % (n : Nat) := Int.emod_nonneg _ (by omega)
  have h2 : c % (n : Nat) < n := Int.emod_lt_of_pos _ (by omega)
  have h3 : (c % (n : Nat)).toNat < xs.length := by omega
  exact ⟨xs[(c % (n : Nat)).toNat], List.getElem_mem h3, at_k (k := (c % (n : Nat)).toNat) (by omega) (List.getElem?_eq_getElem h3)⟩
theorem addL_ok {xs ys : List D} (h : xs.length + ys.length ≤ 1000000) (cs : Cs) : opAdd false (.lst xs) (.lst ys) cs = .ok (.lst (xs ++ ys)) cs := by
  rw [o_addL, show szOk (xs.length + ys.length) = true from decide_eq_true h]
  rfl
theorem addLc_ok {xs ys : List D} (h : xs.length + ys.length ≤ 1000000) (cs : Cs) : opAdd true (.lst xs) (.lst ys) cs = .ok (.ref cs.length) (cs ++ [xs ++ ys]) := by
  rw [o_addL, show szOk (xs.length + ys.length) = true from decide_eq_true h]
  rfl
theorem addT_ok {c : Bool} {xs ys : List D} (h : xs.length + ys.length ≤ 1000000) (cs : Cs) : opAdd c (.tup xs) (.tup ys) cs = .ok (.tup (xs ++ ys)) cs := by
  rw [o_addT, show szOk (xs.length + ys.length) = true from decide_eq_true h]
  rfl
theorem addS_ok {c : Bool} {xs ys : Str} (h : xs.length + ys.length ≤ 1000000) (cs : Cs) : opAdd c (.str xs) (.str ys) cs = .ok (.str (xs ++ ys)) cs := by
  rw [o_addS, show szOk (xs.length + ys.length) = true from decide_eq_true h]
  rfl
theorem wip_nil (env : En) : wip env [] = env := rfl
theorem wip_cons (env : En) (j : Nat) (js : List Nat) : wip env (j :: js) = (wip env js).set j none := rfl
theorem szOk_small {n : Nat} : szOk n = decide (n ≤ 1000000) := rfl
/-- slices -/
theorem e_pNo (env : En) (cs : Cs) : pNo env cs = .ok none cs := rfl
def vI : D → M (Option Int)
  | .int i => M.ret (some i)
  | _ => M.no
theorem vI_i (i : Int) (cs : Cs) : vI (.int i) cs = .ok (some i) cs := rfl
theorem e_pSome (a : En → M D) (env : En) (cs : Cs) : pSome a env cs = @kk _ _ (a env cs) vI := by
  show M.bnd (a env) _ cs = _
  exact bnd_kk ..
theorem e_sl (c : Bool) (a : En → M D) (lo hi : En → M (Option Int)) (env : En) (cs : Cs) : xSl c a lo hi env cs = @kk _ _ (a env cs) fun d cs => @kk _ _ (lo env cs) fun l cs => @kk _ _ (hi env cs) fun u cs => @kk _ _ (kO (seqOf cs d) cs) fun xs cs => mkL c (cutD xs l u) cs := by
  show M.bnd (a env) _ cs = _
  rw [bnd_kk]
  refine kk_c fun d cs => ?_
  rw [bnd_kk]
  refine kk_c fun l cs => ?_
  rw [bnd_kk]
  refine kk_c fun u cs => ?_
  cases seqOf cs d <;> rfl
theorem sIx_k {n k d : Nat} (h : k ≤ n) : HT.sIx n d (some (k : Int)) = k := by
  rw [HT.sIx_nat, Nat.min_eq_left h]
theorem cut_to {xs : List D} {k : Nat} (h : k ≤ xs.length) : cutD xs none (some (k : Int)) = xs.take k := by
  unfold cutD
  rw [sIx_k h]
  simp [HT.sIx]
theorem cut_from {xs : List D} {k : Nat} (h : k ≤ xs.length) : cutD xs (some (k : Int)) none = xs.drop k := by
  unfold cutD
  rw [sIx_k h]
  simp only [HT.sIx]
  exact List.take_of_length_le (by simp)
end G
namespace G
open L2 PySem PySem.Spec PyProof.Rows
/-! try -/
def kW5 (r : Rs Fl) : Rs Fl := match r with
  | .ok f cs => .ok f cs
  | .ex x cs => (match wordD5 x with
    | some d => .ok (.rt d) cs
    | none => .no)
  | .no => .no
theorem e_try5 (i : Nat) (b : En → M Fl) (env : En) (cs : Cs) : sTryW5 i b env cs = @kI _ (decide (i < env.length)) (kW5 (b env cs)) .no := by
  unfold sTryW5 kI kW5
  simp only [decide_eq_true_eq] <;> rfl
theorem kW5_ok (f : Fl) (cs : Cs) : kW5 (.ok f cs) = .ok f cs := rfl
theorem kW5_lines (cs : Cs) : kW5 (.ex .lines cs) = .ok (.rt (.lst [.str (PySem.Str.ofString "lines")])) cs := rfl
theorem kW5_thing (cs : Cs) : kW5 (.ex .thing cs) = .ok (.rt (.lst [.str (PySem.Str.ofString "thing")])) cs := rfl
theorem kW5_kind (cs : Cs) : kW5 (.ex .kind cs) = .ok (.rt (.lst [.str (PySem.Str.ofString "kind")])) cs := rfl
theorem kW5_nonet (cs : Cs) : kW5 (.ex .nonet cs) = .ok (.rt (.lst [.str (PySem.Str.ofString "none")])) cs := rfl
theorem kW5_net (o : Option Int) (cs : Cs) : kW5 (.ex (.net o) cs) = .ok (.rt (.lst [.str (PySem.Str.ofString "net"), atD o])) cs := rfl
theorem noR_atD (o : Option Int) : noR (atD o) = true := by cases o <;> rfl
theorem okD_atD (o : Option Int) : okD 0 (atD o) = true := by cases o <;> rfl
theorem eqX_of {d e : D} (h : d ≠ .dic) (b : Bool) (cs : Cs) : opEqX b d e cs = opEq b d e cs := by
  cases d <;> first | rfl | exact absurd rfl h
theorem eqX_dic (b : Bool) (cs : Cs) : opEqX b .dic .dic cs = .ok (.bl b) cs := rfl
theorem eqX_i (i j : Int) (cs : Cs) : opEqX true (.int i) (.int j) cs = .ok (.bl (decide (i = j))) cs := o_eqI true i j cs
theorem eqX_refl {d : D} {n : Nat} (hd : okD n d = true) (hn : n ≤ 64) (cs : Cs) : opEqX true d d cs = .ok (.bl true) cs := by
  rw [eqX_of (fun e => by subst e; cases n <;> cases hd)]
  exact eq_refl hd hn cs
end G
/-! G17: items stored, things popped. -/
namespace G
open L2 PySem PySem.Spec PyProof.Rows
set_option checkBinderAnnotations false in
def kSet [env : En] (y d k : D) (cs : Cs) : Rs Fl := match d, k with
  | .ref a, .int j => (match cs[a]? with
    | some xs => (match ixN xs.length j with
      | some n => .ok (.nx env) (cs.set a (xs.set n y))
      | none => .no)
    | none => .no)
  | _, _ => .no
theorem e_setIx (v o i : En → M D) (env : En) (cs : Cs) : sSetIx v o i env cs = @kk _ _ (v env cs) fun y cs => @kk _ _ (o env cs) fun d cs => @kk _ _ (i env cs) fun k cs => @kSet env y d k cs := by
  show M.bnd (v env) _ cs = _
  rw [bnd_kk]
  refine kk_c fun y cs => ?_
  rw [bnd_kk]
  refine kk_c fun d cs => ?_
  rw [bnd_kk]
  refine kk_c fun k cs => ?_
  cases d <;> first | rfl | (cases k <;> rfl)
theorem kSet_ok {env : En} {a n : Nat} {j : Int} {xs : List D} {y : D} {cs : Cs} (h : cs[a]? = some xs) (hj : j = (n : Nat)) (hn : n < xs.length) : @kSet env y (.ref a) (.int j) cs = .ok (.nx env) (cs.set a (xs.set n y)) := by
  subst hj
  have e : ixN xs.length ((n : Nat) : Int) = some n := by
    unfold ixN
    rw [if_pos (by omega), if_pos (by omega)]
    simp
  simp only [kSet, h, e]
set_option checkBinderAnnotations false in
def kRef [k : Nat → Cs → Rs D] (d : D) (cs : Cs) : Rs D := match d with
  | .ref i => k i cs
  | _ => .no
theorem kRef_r (k : Nat → Cs → Rs D) (i : Nat) (cs : Cs) : @kRef k (.ref i) cs = k i cs := rfl
theorem e_app (o v : En → M D) (env : En) (cs : Cs) : xApp o v env cs = @kk _ _ (o env cs) fun d cs => @kRef (fun i cs => @kk _ _ (v env cs) (cApp i)) d cs := by
  show M.bnd (o env) _ cs = _
  rw [bnd_kk]
  refine kk_c fun d cs => ?_
  cases d <;> rfl
theorem e_popAt (o v : En → M D) (env : En) (cs : Cs) : xPopAt o v env cs = @kk _ _ (o env cs) fun d cs => @kRef (fun i cs => @kk _ _ (v env cs) (cPopAt i)) d cs := by
  show M.bnd (o env) _ cs = _
  rw [bnd_kk]
  refine kk_c fun d cs => ?_
  cases d <;> rfl
theorem cApp_ok {i : Nat} {xs : List D} {cs : Cs} (y : D) (h : cs[i]? = some xs) (hz : xs.length ≤ 1000000) : cApp i y cs = .ok .non (cs.set i (xs ++ [y])) := by
  unfold cApp
  rw [h]
  show (if szOk xs.length = true then _ else _) = _
  rw [if_pos (show szOk xs.length = true from decide_eq_true hz)]
theorem cPopAt_ok {i n : Nat} {j : Int} {xs : List D} {cs : Cs} (h : cs[i]? = some xs) (hj : j = (n : Nat)) (hn : n < xs.length) (hz : xs.length ≤ 1000000) : cPopAt i (.int j) cs = .ok xs[n] (cs.set i (xs.eraseIdx n)) := by
  subst hj
  show (match cs[i]? with
    | some xs => if decide (0 ≤ ((n : Nat) : Int) ∧ ((n : Nat) : Int) < xs.length ∧ ((n : Nat) : Int) < 2 ^ 63) = true then (match xs[((n : Nat) : Int).toNat]? with
      | some y => Rs.ok y (cs.set i (xs.eraseIdx ((n : Nat) : Int).toNat))
      | none => .no) else .no
    | none => .no) = _
  rw [h]
  dsimp only
  rw [if_pos (decide_eq_true (by omega)), Int.toNat_natCast, List.getElem?_eq_getElem hn]
theorem e_callO2 (f : List D → Rp2) (a : En → M (List D)) (env : En) (cs : Cs) (L : List (List D)) (xs : List D) (cs1 : Cs) (h : a env cs = .ok xs cs1) (hn : noRL xs = true) (hf : f xs = .ok L) (hL : L.all noRL = true) : xCallO2 f a env cs = .ok (.lst (refsN cs1.length L.length)) (cs1 ++ L) := callO2_ok h hn hf hL
end G
/-! G18: the law's word where the fourth question is only whether it is BadNet. -/
namespace G
open L2 PySem PySem.Spec PyProof.Rows
/-- what the second word's def does with an error of one of the four -/
def tWord4b (K : PySem.W.Frag) (a : Addr) (y : X4) : TS :=
  tSeq (tAsg (tLst (tCons (tEb 0 a (y.eqb .kind)) (tCons (tEb 0 a (y.eqb .thing)) (tCons (tEb 0 a (y.eqb .lines)) (tCons (tEb 0 a false) tNil))))) (gName 1))
    (tSeq (tDrop (tBM K "list" rAppend (tVar 1) (tCons (tEb 0 a (y.eqb .nonet)) tNil)))
      (tSeq (tIfS (tOr (tTest (tOp rNe (tBM K "list" (rCntF K) (tVar 1) (tCons (tC (V.bl true)) tNil)) (tC (V.int 1)))) (tNot (tB (tEb 0 a true)))) (tRet (tLst (tCons (tC (V.str (PySem.Str.ofString "other"))) tNil))) tNext)
        (tSeq (tIfS (tB (tEb 0 a false)) (fun _ _ _ => False) tNext)
          (tRet (tLst (tCons (tOp (rIx K) (tLst (tCons (tC (.str (PySem.Str.ofString "kind"))) (tCons (tC (.str (PySem.Str.ofString "thing"))) (tCons (tC (.str (PySem.Str.ofString "lines"))) (tCons (tC (.str (PySem.Str.ofString "net"))) (tCons (tC (.str (PySem.Str.ofString "none"))) tNil)))))) (tBM K "list" (rIndex K) (tVar 1) (tCons (tC (V.bl true)) tNil))) tNil))))))
theorem word_wish4b {K : PySem.W.Frag} {a : Addr} {y : X4} {H : Hp} {Q : VK} (hq : ∀ l H', H l = none → Ext H H' → H' l = some (.lst [.str y.word]) → Q (.ref l) H') : tWord4b K a y { nx := fun _ H' => Q .non H', rt := Q } (L2.start ["_law_e", "_law_mine"] [.ref a]) H := by
  refine ⟨rfl, rfl, rfl, rfl, (by decide : 4 ≤ sizeLine), fun l hl => ?_⟩
  refine ⟨.ref l, rfl, .inl ⟨rfl, _, SqL.of upd_same⟩, rfl, l, _, _, rfl, rfl, upd_same, (by decide : 4 < sizeLine), ?_⟩
  refine ⟨.ref l, rfl, .inl ⟨rfl, _, SqL.of upd_same⟩, l, _, .bl true, rfl, rfl, SqL.of upd_same, rfl, by cases y <;> rfl, by cases y <;> rfl, false, by cases y <;> rfl, ?_⟩
  refine (if_neg Bool.false_ne_true).mpr ?_
  refine ⟨rfl, true, rfl, ?_⟩
  refine (if_neg Bool.false_ne_true).mpr ?_
  refine ⟨rfl, false, rfl, ?_⟩
  refine (if_neg Bool.false_ne_true).mpr ?_
  refine ⟨by decide, fun l2 hl2 => ?_⟩
  have n12 : l ≠ l2 := fun e => by
    rw [← e, upd_same] at hl2
    cases hl2
  refine ⟨.ref l, rfl, .inl ⟨rfl, _, SqL.of (by rw [upd_ne n12]; exact upd_same)⟩, l, _, .bl true, y.at5, .bl true, rfl, rfl, SqL.of (by rw [upd_ne n12]; exact upd_same), rfl, by cases y <;> rfl, by cases y <;> rfl, rfl, ?_, ?_⟩
  · intro m z hm hz
    cases y with
    | kind => exact absurd hm (by simp [X4.at5])
    | thing => match m, hm, hz with
      | 0, _, hz => cases hz; rfl
    | lines => match m, hm, hz with
      | 0, _, hz => cases hz; rfl
      | 1, _, hz => cases hz; rfl
    | nonet => match m, hm, hz with
      | 0, _, hz => cases hz; rfl
      | 1, _, hz => cases hz; rfl
      | 2, _, hz => cases hz; rfl
      | 3, _, hz => cases hz; rfl
  · refine .inl ⟨l2, wordsV, _, .str y.word, rfl, rfl, SqL.of upd_same, by cases y <;> rfl, ?_⟩
    refine ⟨(by decide : 1 ≤ sizeLine), fun l3 hl3 => hq l3 _ ?_ ?_ upd_same⟩
    · have n23 : l3 ≠ l2 := fun e => by
        rw [e, upd_same] at hl3
        cases hl3
      rw [upd_ne n23] at hl3
      have n13 : l3 ≠ l := fun e => by
        rw [e, upd_same] at hl3
        cases hl3
      rw [upd_ne n13, upd_ne n13] at hl3
      exact hl3
    · intro b o hb
      have nb : b ≠ l := ne_of_none hb hl
      have hl2' : H l2 = none := by
        rw [upd_ne (Ne.symm n12), upd_ne (Ne.symm n12)] at hl2
        exact hl2
      have nb2 : b ≠ l2 := ne_of_none hb hl2'
      have n3 : b ≠ l3 := fun e => by
        rw [← e, upd_ne nb2, upd_ne nb, upd_ne nb, hb] at hl3
        cases hl3
      rw [upd_ne n3, upd_ne nb2, upd_ne nb, upd_ne nb]
      exact hb
/-- .. with BadNet's -/
def tWordNb (K : PySem.W.Frag) (a dd : Addr) (o : Option Int) : TS :=
  tSeq (tAsg (tLst (tCons (tEd 0 a dd o false) (tCons (tEd 0 a dd o false) (tCons (tEd 0 a dd o false) (tCons (tEd 0 a dd o true) tNil))))) (gName 1))
    (tSeq (tDrop (tBM K "list" rAppend (tVar 1) (tCons (tEd 0 a dd o false) tNil)))
      (tSeq (tIfS (tOr (tTest (tOp rNe (tBM K "list" (rCntF K) (tVar 1) (tCons (tC (V.bl true)) tNil)) (tC (V.int 1)))) (tNot (tB (tEd 0 a dd o true)))) (tRet (tLst (tCons (tC (V.str (PySem.Str.ofString "other"))) tNil))) tNext)
        (tSeq (tIfS (tB (tEd 0 a dd o true)) (tRet (tLst (tCons (tC (.str (PySem.Str.ofString "net"))) (tCons (tAt 0 a dd o) tNil)))) tNext) (fun _ _ _ => False))))
theorem word_wishNb {K : PySem.W.Frag} {a dd : Addr} {o : Option Int} {H : Hp} {Q : VK} (hd : Dd H dd o) (hq : ∀ l H', H l = none → Ext H H' → H' l = some (.lst [.str (PySem.Str.ofString "net"), atV o]) → Q (.ref l) H') : tWordNb K a dd o { nx := fun _ H' => Q .non H', rt := Q } (L2.start ["_law_e", "_law_mine"] [.ref a]) H := by
  refine ⟨rfl, hd, rfl, hd, rfl, hd, rfl, hd, (by decide : 4 ≤ sizeLine), fun l hl => ?_⟩
  have x1 : Ext H (upd H l (.lst [.bl false, .bl false, .bl false, .bl true])) := Ext.new hl
  have x2 : Ext H (upd (upd H l (.lst [.bl false, .bl false, .bl false, .bl true])) l (.lst [.bl false, .bl false, .bl false, .bl true, .bl false])) := fun b u hb => by
    have nb : b ≠ l := ne_of_none hb hl
    rw [upd_ne nb, upd_ne nb]
    exact hb
  refine ⟨.ref l, rfl, .inl ⟨rfl, _, SqL.of upd_same⟩, rfl, hd.ext x1, l, _, _, rfl, rfl, upd_same, (by decide : 4 < sizeLine), ?_⟩
  have d2 := hd.ext x2
  refine ⟨.ref l, rfl, .inl ⟨rfl, _, SqL.of upd_same⟩, l, _, .bl true, rfl, rfl, SqL.of upd_same, rfl, rfl, rfl, false, rfl, ?_⟩
  refine (if_neg Bool.false_ne_true).mpr ⟨rfl, d2, true, rfl, ?_⟩
  refine (if_neg Bool.false_ne_true).mpr ?_
  refine ⟨rfl, d2, true, rfl, ?_⟩
  refine (if_pos rfl).mpr ⟨rfl, d2, (by decide : 2 ≤ sizeLine), fun l3 hl3 => hq l3 _ ?_ ?_ upd_same⟩
  · have n3 : l3 ≠ l := fun e => by
      rw [e, upd_same] at hl3
      cases hl3
    rw [upd_ne n3, upd_ne n3] at hl3
    exact hl3
  · intro b u hb
    have n3 : b ≠ l3 := fun e => by
      have := x2 b u hb
      rw [e] at this
      have z := this.symm.trans (show _ = none from hl3)
      cases z
    rw [upd_ne n3]
    exact x2 b u hb
end G
/-! G19: list(reversed(x)), x a list. -/
namespace G
open L2 PySem PySem.Spec PyProof.Rows
open RT
section
variable {prog : Program} {w : World} {A : Around} {E : Value → Shared → Prop} {s : Shared}
theorem extend_rev {R : Result → Shared → Prop} {it l S : Addr} {items : Array Value} (hh : A.handled = none) (hit : s.heap.IsRevIter it l ((items.size : Int) - 1)) (hl : s.heap.IsList l items) (hne : l ≠ it) (hn : items.size ≤ sizeLine) (hSi : S ≠ it) (hSl : S ≠ l)
    (hS : s.heap.get? S = some { cls := .type "list", data := .seq #[] })
    (hR : ∀ (h' : Heap) (tk : Nat) (acc : Array Value) (c' : Nat), (∀ b o, b ≠ it → b ≠ S → s.heap.get? b = some o → h'.get? b = some o) → h'.get? S = some { cls := .type "list", dict := none, data := .seq acc c', slots := #[] } → ItemsOf (fun i v => items[items.size - 1 - i]? = some v) acc items.size → R (.ok (.ret .none)) { s with heap := h', toks := tk }) :
    wpAny (model prog w) A.in1 (Builtin.List.listExtendWith (.ref S) (.ref it) .none)
      (fun fin s' => match fin with | .done f => R (.ok f) s' | .again c' => c'.quiet = true ∧ codeAny (model prog w) A c' R s') (fun e s' => R (.error e) s') s := by
  have W := (Walks.listRev (prog := prog) (w := w) (A := A.in1) hh it l hne items).toS
  have hSf : S ∉ [it, l] := by simp only [List.mem_cons, List.not_mem_nil, or_false, not_or]; exact ⟨hSi, hSl⟩
  have hT : s.TypeIs (.ref it) "list_reverseiterator" := Heap.IsRevIter.typeIs hit
  have h1 : Builtin.List.listSameRef (.ref S) (.ref it) = false := by simp [Builtin.List.listSameRef, hSi]
  unfold Builtin.List.listExtendWith
  refine wpAny_bind (wpAny_typeOf hT ?_)
  rw [if_neg (by rw [h1]; decide)]
  refine wpAny_bind (wpAny_pyIter_revIter hit ?_)
  refine wpAny_bind (wpAny_holding ?_)
  unfold Builtin.List.listLengthHint
  refine wpAny_bind (wpAny_specialOf hT nolen_lri ?_)
  show wpAny _ A.in1 (specialOf (Value.ref it) (Str.ofString "__length_hint__") >>= _) _ _ _
  refine wpAny_bind (wpAny_specialOf hT hint_lri ?_)
  generalize hid : ("list_reverseiterator.__length_hint__" : String) = id0
  wp_delta
  rw [show splitId id0 = some ("list_reverseiterator", "__length_hint__") from by subst hid; decide +kernel]
  subst hid
  refine wpAny_bind (wpAny_isInstance (b := true) hT (by rw [isSubtype_type]; kernel_rfl) ?_)
  refine wpAny_pure ?_
  rw [if_neg (by decide)]
  have e0 : ((items.size : Nat) : Int) - 1 - ((0 : Nat) : Int) = (items.size : Int) - 1 := by omega
  refine wpAny_pure ⟨plainId_quiet F.plain_extend_loop _, codeAny_extend_loopS W hn _ hSf _ items.size 0 _ _ _ rfl (Nat.zero_le _) ⟨Nat.zero_le _, by rw [e0]; exact hit, hl⟩ hS (ItemsOf.nil _) fun s' acc' c' hm hS' hacc => ?_⟩
  rw [Moved.eq_with hm]
  refine hR s'.heap s'.toks acc' c' (fun b o hb hb2 e => hm.heap b o (fun hmem => ?_) e) hS' hacc
  rcases List.mem_cons.mp hmem with e' | hmem
  · exact hb2 e'
  · exact hb (List.mem_singleton.mp hmem)
theorem call_list_rev {it l : Addr} {items : Array Value} {Q : Value → Shared → Prop} (hh : A.handled = none) (hit : s.heap.IsRevIter it l ((items.size : Int) - 1)) (hl : s.heap.IsList l items) (hne : l ≠ it) (hn : items.size ≤ sizeLine)
    (hQ : ∀ (h' : Heap) (tk : Nat) (acc : Array Value) (c' : Nat), (∀ b o, b ≠ it → s.heap.get? b = some o → h'.get? b = some o) → h'.get? s.heap.objs.size = some { cls := .type "list", dict := none, data := .seq acc c', slots := #[] } → ItemsOf (fun i v => items[items.size - 1 - i]? = some v) acc items.size →
      Q (.ref s.heap.objs.size) { s with heap := h', toks := tk }) :
    wpAny (model prog w) A (call (.type "list") [.ref it]) Q E s := by
  obtain ⟨oi, hoi, _⟩ := id hit
  obtain ⟨ol, hol, _⟩ := id hl
  have hSi : s.heap.objs.size ≠ it := Nat.ne_of_gt (Heap.lt_size hoi)
  have hSl : s.heap.objs.size ≠ l := Nat.ne_of_gt (Heap.lt_size hol)
  refine callType_codes (Q₁ := fun obj s₁ => obj = .ref s.heap.objs.size ∧ s₁ = { s with heap := s.heap.push { cls := .type "list", data := .seq #[] } }) F.called_list (F.typeCall_list_1 _) F.entry_list_init
    (code_list_new _ ⟨rfl, rfl⟩) fun obj s₁ h₁ => ?_
  obtain ⟨rfl, rfl⟩ := h₁
  have hS : (s.heap.push { cls := .type "list", data := .seq #[] }).get? s.heap.objs.size = some { cls := .type "list", data := .seq #[] } := Heap.get?_push_size _ rfl
  refine ⟨⟨_, hS, rfl⟩, F.args_list_init_2 _ _, ?_⟩
  show wpAny _ A.in1.in1 (do let old ← Builtin.List.listItems (.ref s.heap.objs.size); Builtin.List.listUpdate (.ref s.heap.objs.size) (fun _ => #[]); letGo old.toList.reverse; Builtin.List.listExtendWith (.ref s.heap.objs.size) (.ref it) .none) _ _ _
  refine wpAny_bind ?_
  unfold Builtin.List.listItems
  refine wpAny_bind (wpAny_seqItems hS rfl (wpAny_pure ?_))
  show wpAny _ A.in1.in1 (updateSeq s.heap.objs.size (fun _ => #[]) >>= fun _ => letGo (#[] : Array Value).toList.reverse >>= fun _ => Builtin.List.listExtendWith (.ref s.heap.objs.size) (.ref it) .none) _ _ _
  refine wpAny_bind (wpAny_updateSeq hS rfl ?_)
  have hS₂ := Heap.get?_update_self (Obj.mapSeq (fun _ => (#[] : Array Value))) hS rfl
  have oth : ∀ b o, b ≠ s.heap.objs.size → s.heap.get? b = some o → ((s.heap.push { cls := .type "list", data := .seq #[] }).update s.heap.objs.size (Obj.mapSeq (fun _ => (#[] : Array Value)))).get? b = some o :=
    fun b o hb e => (Heap.get?_update_other _ _ (Ne.symm hb)).trans (Heap.get?_push_of_some _ e)
  refine wpAny_bind (wpAny_letGo ?_)
  refine extend_rev (A := A.in1) hh (hit.at fun o e => oth it o (Ne.symm hSi) e) (hl.at fun o e => oth l o (Ne.symm hSl) e) hne hn hSi hSl hS₂ fun h' tk acc c' hk hS' hacc => ?_
  exact ⟨rfl, hQ h' tk acc c' (fun b o hb e => hk b o hb (Nat.ne_of_lt (Heap.lt_size e)) (oth b o (Nat.ne_of_lt (Heap.lt_size e)) e)) hS' hacc⟩
end
end G
namespace G
open L2 PySem PySem.Spec PyProof.Rows
open RT
def tListRev (K : PySem.W.Frag) (te : TE) : TE := fun σ H Q => te σ H fun v H1 => ∃ (a : Addr) (xs : List V), v = .ref a ∧ SqL K H1 a xs ∧ ∀ q, H1 q = none → Q (.ref q) (upd H1 q (.lst xs.reverse))
theorem pe_listRev {X : Cx} {e : Expr} {te : TE} {p p2 pos pos2 : Pos} (hc : X.calm = true) (hg : Gl X "list") (hm : X.mg "list" = none) (hg2 : Gl X "reversed") (hm2 : X.mg "reversed" = none) (he : PE X e te)
    (hs : starEach [e] X.env = (false, eval e X.env) :: starEach [] X.env := by rfl)
    (hs2 : starEach [.Call (.Name "reversed" p2) [e] [] pos2] X.env = (false, eval (.Call (.Name "reversed" p2) [e] [] pos2) X.env) :: starEach [] X.env := by rfl) :
    PE X (.Call (.Name "list" p) [.Call (.Name "reversed" p2) [e] [] pos2] [] pos) (tListRev X.K te) := by
  refine ⟨fun pins s σ H Q I h => ?_⟩
  refine Call_ (ld_blt I hg hm boot_list (PyProof.Rows.callWith_type1 (args_cons (Call_ (ld_blt I hg2 hm2 PyProof.Rows.boot_reversed (PyProof.Rows.callWith_type1 (args_cons (thn (he.run pins s σ H _ I h) fun u s1 ⟨v, H1, I1, r1, q1⟩ => args_nil ?_) hs) hs rfl))) hs2) hs2 rfl))
  obtain ⟨a, xs, ev, hq, q⟩ := q1
  subst ev
  obtain rfl : u = Value.ref a := r1
  obtain ⟨its, rv, p', hz⟩ := I1.list hq
  refine call_reversed_list p'.isList (args_nil ?_)
  have k0 : ∀ b o, s1.heap.get? b = some o → (s1.heap.push (revObj a ((its.toArray.size : Int) - 1))).get? b = some o := fun b o e => Heap.get?_push_of_some _ e
  have hl := p'.isList
  obtain ⟨ol, hol, _⟩ := id hl
  have hne : a ≠ s1.heap.objs.size := Nat.ne_of_lt (Heap.lt_size hol)
  have hn : its.toArray.size ≤ sizeLine := by rw [List.size_toArray, ← rv.length]; exact hz
  refine call_list_rev (s := { s1 with heap := s1.heap.push (revObj a ((its.toArray.size : Int) - 1)) }) (I1.ok.hd hc) ⟨_, Heap.get?_push_size _ rfl, rfl, rfl⟩ (hl.push _) hne hn fun h' tk acc c' hk hS' hi => ?_
  have hsz : s1.heap.objs.size ≤ (s1.heap.push (revObj a ((its.toArray.size : Int) - 1))).objs.size := by
    show _ ≤ (s1.heap.objs.push _).size
    rw [Array.size_push]
    omega
  refine ⟨.ref (s1.heap.push (revObj a ((its.toArray.size : Int) - 1))).objs.size, upd H1 (s1.heap.push (revObj a ((its.toArray.size : Int) - 1))).objs.size (.lst xs.reverse), I1.laid (h' := h') (t' := tk) (fun b o e => hk b o (Nat.ne_of_lt (Heap.lt_size e)) (k0 b o e)) hsz (show ObjOk X.prog X.w _ _ _ (.lst xs.reverse) from ⟨by rw [List.length_reverse]; exact hz, acc.toList, c', vals_rev rv hi, ?_⟩), rfl, q _ (I1.hok.fresh hsz)⟩
  rw [Array.toArray_toList]
  exact hS'
section
variable {X : Cx} {ct : Ct} {W : WX} {e : Expr} {me : En → M D} {p p2 pos pos2 : Pos}
theorem ge_listRev (c : Bool) (hc : X.calm = true) (hg : Gl X "list") (hm : X.mg "list" = none) (hg2 : Gl X "reversed") (hm2 : X.mg "reversed" = none) (he : PE X e (tD X.K ct W me)) (hs : starEach [e] X.env = (false, eval e X.env) :: starEach [] X.env := by rfl)
    (hs2 : starEach [.Call (.Name "reversed" p2) [e] [] pos2] X.env = (false, eval (.Call (.Name "reversed" p2) [e] [] pos2) X.env) :: starEach [] X.env := by rfl) :
    PE X (.Call (.Name "list" p) [.Call (.Name "reversed" p2) [e] [] pos2] [] pos) (tD X.K ct W (xUn (opRev c) me)) := PE.imp (pe_listRev hc hg hm hg2 hm2 he hs hs2) (by
  rintro σ H Q ⟨F, as, env, cs, ok, sl, h⟩
  refine ⟨F, as, env, cs, ok, sl, out_imp (out_bnd h) fun d cs1 F1 H1 as1 g1 ok1 h1 v hv => ?_⟩
  unfold opRev at h1
  split at h1
  · rename_i xs q
    obtain ⟨a, ys, rfl, h4, lk⟩ := seq_at ok1 hv q
    exact ⟨a, ys, rfl, h4, new_mk ok1 lk.rev h1⟩
  · exact False.elim h1)
end
end G
/-! Tell: the plain law of nets: joints laid in layers by done and read go as they go one by one. No program in sight. -/
namespace Tell
/-- a stretch of things, or none -/
abbrev Iv := Option (Nat × Nat)
abbrev St := Nat → Iv
def upd (v : St) (x : Nat) (y : Iv) : St := fun z => if z = x then y else v z
theorem upd_same {v : St} {x : Nat} {y : Iv} : upd v x y x = y := if_pos rfl
theorem upd_ne {v : St} {x z : Nat} {y : Iv} (h : z ≠ x) : upd v x y z = v z := if_neg h
theorem upd_comm {v : St} {x z : Nat} {y w : Iv} (h : x ≠ z) : upd (upd v x y) z w = upd (upd v z w) x y := by
  funext a
  unfold upd
  by_cases h1 : a = x <;> by_cases h2 : a = z <;> simp_all
def join : Iv → Iv → Iv
  | some (a, b), some (c, d) => if b + 1 = c then some (a, d) else none
  | _, _ => none
/-- joints are (high, low) -/
abbrev Jt := Nat × Nat
def seqS (v : St) (p : Jt) : St := upd v p.1 (join (v p.2) (v p.1))
def layGo (v : St) (L : List Jt) (now : St) : St := L.foldl (fun now p => upd now p.1 (join (v p.2) (v p.1))) now
def layerS (v : St) (L : List Jt) : St := layGo v L v
def netS (v : St) (N : List (List Jt)) : St := N.foldl layerS v
theorem layGo_other {v : St} : ∀ {L : List Jt} {now : St} {x : Nat}, (∀ q ∈ L, q.1 ≠ x) → layGo v L now x = now x
  | [], _, _, _ => rfl
  | q :: L, now, x, h => by
    show layGo v L (upd now q.1 (join (v q.2) (v q.1))) x = now x
    rw [layGo_other fun r hr => h r (List.mem_cons_of_mem _ hr), upd_ne (Ne.symm (h q List.mem_cons_self))]
theorem layGo_append (v : St) (L M : List Jt) (now : St) : layGo v (L ++ M) now = layGo v M (layGo v L now) := by
  unfold layGo
  rw [List.foldl_append]
/-- a joint that none of the layer's meets, at the layer's end -/
theorem layer_add {v : St} {L : List Jt} {p : Jt} (h : ∀ q ∈ L, q.1 ≠ p.1 ∧ q.1 ≠ p.2) : layerS v (L ++ [p]) = seqS (layerS v L) p := by
  unfold layerS
  rw [layGo_append]
  show upd (layGo v L v) p.1 (join (v p.2) (v p.1)) = upd (layGo v L v) p.1 (join (layGo v L v p.2) (layGo v L v p.1))
  rw [layGo_other fun q hq => (h q hq).1, layGo_other fun q hq => (h q hq).2]
theorem layGo_comm {v : St} {p : Jt} : ∀ {L : List Jt} {now : St}, (∀ q ∈ L, q.1 ≠ p.1 ∧ q.1 ≠ p.2 ∧ q.2 ≠ p.1) → ∀ y, layGo (seqS v p) L (upd now p.1 y) = upd (layGo v L now) p.1 y
  | [], _, _, _ => rfl
  | q :: L, now, h, y => by
    obtain ⟨h1, h2, h3⟩ := h q List.mem_cons_self
    show layGo (seqS v p) L (upd (upd now p.1 y) q.1 (join (seqS v p q.2) (seqS v p q.1))) = upd (layGo v L (upd now q.1 (join (v q.2) (v q.1)))) p.1 y
    have e1 : seqS v p q.2 = v q.2 := upd_ne h3
    have e2 : seqS v p q.1 = v q.1 := upd_ne h1
    rw [e1, e2, upd_comm (Ne.symm h1), layGo_comm fun r hr => h r (List.mem_cons_of_mem _ hr)]
/-- a joint ahead of a layer that does not meet it, may as well stand behind it -/
theorem layer_comm {v : St} {L : List Jt} {p : Jt} (h : ∀ q ∈ L, q.1 ≠ p.1 ∧ q.1 ≠ p.2 ∧ q.2 ≠ p.1) : layerS (seqS v p) L = seqS (layerS v L) p := by
  unfold layerS
  have e := layGo_comm (v := v) (now := v) h (join (v p.2) (v p.1))
  show layGo (seqS v p) L (upd v p.1 (join (v p.2) (v p.1))) = upd (layGo v L v) p.1 (join (layGo v L v p.2) (layGo v L v p.1))
  rw [e, layGo_other fun q hq => (h q hq).1, layGo_other fun q hq => (h q hq).2.1]
theorem net_comm {p : Jt} : ∀ {N : List (List Jt)} {v : St}, (∀ L ∈ N, ∀ q ∈ L, q.1 ≠ p.1 ∧ q.1 ≠ p.2 ∧ q.2 ≠ p.1) → netS (seqS v p) N = seqS (netS v N) p
  | [], _, _ => rfl
  | L :: N, v, h => by
    show netS (layerS (seqS v p) L) N = seqS (netS (layerS v L) N) p
    rw [layer_comm (h L List.mem_cons_self), net_comm fun M hM => h M (List.mem_cons_of_mem _ hM)]
theorem net_append (v : St) (N M : List (List Jt)) : netS v (N ++ M) = netS (netS v N) M := by
  unfold netS
  rw [List.foldl_append]
/-- a joint put into a layer goes as if it stood at the net's end -/
theorem net_place {v : St} {pre post : List (List Jt)} {L : List Jt} {p : Jt} (h : ∀ q ∈ L, q.1 ≠ p.1 ∧ q.1 ≠ p.2) (h2 : ∀ M ∈ post, ∀ q ∈ M, q.1 ≠ p.1 ∧ q.1 ≠ p.2 ∧ q.2 ≠ p.1) :
    netS v (pre ++ (L ++ [p]) :: post) = seqS (netS v (pre ++ L :: post)) p := by
  rw [net_append, net_append]
  show netS (layerS (netS v pre) (L ++ [p])) post = seqS (netS (layerS (netS v pre) L) post) p
  rw [layer_add h, net_comm h2]
/-! ### how the law lays them -/
structure S where
  found : List (List Jt)
  done : List Nat
  read : List Nat
def S.at_ (s : S) (low high : Nat) : Nat := max (max (s.done.getD low 0) (s.done.getD high 0)) (s.read.getD high 0)
/-- a list with one more item at i's list -/
def put : List (List Jt) → Nat → Jt → List (List Jt)
  | [], 0, p => [[p]]
  | [], i + 1, p => [] :: put [] i p
  | L :: N, 0, p => (L ++ [p]) :: N
  | L :: N, i + 1, p => L :: put N i p
def place (s : S) (low high : Nat) : S :=
  let t := s.at_ low high
  ⟨put s.found t (high, low), s.done.set high (t + 1), s.read.set low (max (s.read.getD low 0) t)⟩
/-- the books are kept -/
structure Inv (n : Nat) (s : S) : Prop where
  dl : s.done.length = n
  rl : s.read.length = n
  bk : ∀ (M : Nat) (L : List Jt), s.found[M]? = some L → ∀ q ∈ L, M + 1 ≤ s.done.getD q.1 0 ∧ M ≤ s.read.getD q.2 0
  rg : ∀ L ∈ s.found, ∀ q ∈ L, q.2 < q.1 ∧ q.1 < n
  ne : ∀ L ∈ s.found, L ≠ []
  nd : ∀ L ∈ s.found, (L.map (·.1)).Nodup
  dm : ∀ x, s.done.getD x 0 ≤ s.found.length
  rm : ∀ x, s.read.getD x 0 ≤ s.found.length
theorem put_split : ∀ {N : List (List Jt)} {i : Nat} {p : Jt}, i < N.length → ∃ pre L post, N = pre ++ L :: post ∧ pre.length = i ∧ put N i p = pre ++ (L ++ [p]) :: post
  | L :: N, 0, p, _ => ⟨[], L, N, rfl, rfl, rfl⟩
  | L :: N, i + 1, p, h => by
    obtain ⟨pre, M, post, e1, e2, e3⟩ := put_split (N := N) (i := i) (p := p) (by simpa using h)
    exact ⟨L :: pre, M, post, by rw [e1]; rfl, by simp [e2], by show L :: put N i p = _; rw [e3]; rfl⟩
  | [], _, _, h => by simp at h
theorem put_end : ∀ {N : List (List Jt)} {p : Jt}, put N N.length p = N ++ [[p]]
  | [], _ => rfl
  | L :: N, p => by
    show L :: put N N.length p = _
    rw [put_end]
    rfl
theorem getD_set {xs : List Nat} {i j y : Nat} : (xs.set i y).getD j 0 = if j = i ∧ i < xs.length then y else xs.getD j 0 := by
  rw [List.getD_eq_getElem?_getD, List.getD_eq_getElem?_getD]
  by_cases h : j = i
  · subst h
    by_cases hl : j < xs.length
    · rw [List.getElem?_set_self hl, if_pos ⟨rfl, hl⟩]
      rfl
    · rw [if_neg fun z => hl z.2, List.getElem?_eq_none (by rw [List.length_set]; omega), List.getElem?_eq_none (by omega)]
  · rw [if_neg fun z => h z.1, List.getElem?_set_ne (Ne.symm h)]
theorem at_le {n : Nat} {s : S} (I : Inv n s) (low high : Nat) : s.at_ low high ≤ s.found.length := by
  unfold S.at_
  have h1 := I.dm low
  have h2 := I.dm high
  have h3 := I.rm high
  omega
/-- laid in its layer, it goes as if it stood at the end -/
theorem place_goes {n : Nat} {s : S} (I : Inv n s) {low high : Nat} (v : St) : netS v (place s low high).found = seqS (netS v s.found) (high, low) := by
  have hle := at_le I low high
  have d1 : s.done.getD low 0 ≤ s.at_ low high := by unfold S.at_; omega
  have d2 : s.done.getD high 0 ≤ s.at_ low high := by unfold S.at_; omega
  have d3 : s.read.getD high 0 ≤ s.at_ low high := by unfold S.at_; omega
  show netS v (put s.found (s.at_ low high) (high, low)) = _
  by_cases he : s.at_ low high = s.found.length
  · rw [he, put_end, net_append]
    rfl
  · obtain ⟨pre, L, post, e1, e2, e3⟩ := put_split (p := (high, low)) (show s.at_ low high < s.found.length by omega)
    rw [e3]
    have hL : s.found[s.at_ low high]? = some L := by
      rw [e1, List.getElem?_append_right (by omega), e2, Nat.sub_self]
      rfl
    rw [net_place (fun q hq => ?_) (fun M hM q hq => ?_), ← e1]
    · obtain ⟨b1, b2⟩ := I.bk _ L hL q hq
      refine ⟨fun e => ?_, fun e => ?_⟩
      · rw [e] at b1
        dsimp only at b1
        omega
      · rw [e] at b1
        dsimp only at b1
        omega
    · obtain ⟨i, hi⟩ := List.mem_iff_getElem?.mp hM
      have hM2 : s.found[s.at_ low high + 1 + i]? = some M := by
        rw [e1, List.getElem?_append_right (by omega), e2, show s.at_ low high + 1 + i - s.at_ low high = i + 1 by omega]
        simpa using hi
      obtain ⟨b1, b2⟩ := I.bk _ M hM2 q hq
      refine ⟨fun e => ?_, fun e => ?_, fun e => ?_⟩
      · rw [e] at b1
        dsimp only at b1
        omega
      · rw [e] at b1
        dsimp only at b1
        omega
      · rw [e] at b2
        dsimp only at b2
        omega
theorem put_get : ∀ {N : List (List Jt)} {i : Nat} {p : Jt} (M : Nat), i ≤ N.length → (put N i p)[M]? = if M = i then some ((N[i]?).getD [] ++ [p]) else N[M]?
  | [], 0, p, 0, _ => rfl
  | [], 0, p, M + 1, _ => rfl
  | [], i + 1, p, M, h => by simp at h
  | L :: N, 0, p, 0, _ => rfl
  | L :: N, 0, p, M + 1, _ => rfl
  | L :: N, i + 1, p, 0, _ => by
    rw [if_neg (by omega)]
    rfl
  | L :: N, i + 1, p, M + 1, h => by
    have e := put_get (N := N) (i := i) (p := p) M (by simpa using h)
    show (put N i p)[M]? = _
    rw [e]
    by_cases hm : M = i
    · rw [if_pos hm, if_pos (by omega)]
      rfl
    · rw [if_neg hm, if_neg (by omega)]
      rfl
theorem put_len : ∀ {N : List (List Jt)} {i : Nat} {p : Jt}, i ≤ N.length → (put N i p).length = max N.length (i + 1)
  | [], 0, _, _ => rfl
  | [], i + 1, _, h => by simp at h
  | L :: N, 0, p, _ => by
    show N.length + 1 = _
    simp
  | L :: N, i + 1, p, h => by
    show (put N i p).length + 1 = _
    rw [put_len (by simpa using h)]
    show _ = max (N.length + 1) (i + 1 + 1)
    omega
theorem put_mem {N : List (List Jt)} {i : Nat} {p : Jt} (h : i ≤ N.length) {L : List Jt} (hL : L ∈ put N i p) : (∃ K, N[i]? = some K ∧ L = K ++ [p]) ∨ L = [p] ∧ i = N.length ∨ L ∈ N := by
  obtain ⟨M, hM⟩ := List.mem_iff_getElem?.mp hL
  rw [put_get M h] at hM
  by_cases hm : M = i
  · rw [if_pos hm] at hM
    cases q : N[i]? with
    | none =>
      rw [q] at hM
      have : i = N.length := by
        have := List.getElem?_eq_none_iff.mp q
        omega
      exact .inr (.inl ⟨(Option.some.inj hM).symm, this⟩)
    | some K =>
      rw [q] at hM
      exact .inl ⟨K, rfl, (Option.some.inj hM).symm⟩
  · rw [if_neg hm] at hM
    exact .inr (.inr (List.mem_of_getElem? hM))
theorem place_inv {n : Nat} {s : S} (I : Inv n s) {low high : Nat} (h1 : low < high) (h2 : high < n) : Inv n (place s low high) := by
  have hle := at_le I low high
  have d1 : s.done.getD low 0 ≤ s.at_ low high := by unfold S.at_; omega
  have d2 : s.done.getD high 0 ≤ s.at_ low high := by unfold S.at_; omega
  have d3 : s.read.getD high 0 ≤ s.at_ low high := by unfold S.at_; omega
  have gd : ∀ x, (place s low high).done.getD x 0 = if x = high then s.at_ low high + 1 else s.done.getD x 0 := fun x => by
    show (s.done.set high (s.at_ low high + 1)).getD x 0 = _
    rw [getD_set]
    by_cases hx : x = high
    · rw [if_pos ⟨hx, by rw [I.dl]; exact h2⟩, if_pos hx]
    · rw [if_neg fun z => hx z.1, if_neg hx]
  have gr : ∀ x, (place s low high).read.getD x 0 = if x = low then max (s.read.getD low 0) (s.at_ low high) else s.read.getD x 0 := fun x => by
    show (s.read.set low (max (s.read.getD low 0) (s.at_ low high))).getD x 0 = _
    rw [getD_set]
    by_cases hx : x = low
    · rw [if_pos ⟨hx, by rw [I.rl]; omega⟩, if_pos hx]
    · rw [if_neg fun z => hx z.1, if_neg hx]
  have gl : (place s low high).found.length = max s.found.length (s.at_ low high + 1) := put_len hle
  have dup : ∀ x, s.done.getD x 0 ≤ (place s low high).done.getD x 0 := fun x => by
    rw [gd]
    by_cases hx : x = high
    · rw [if_pos hx, hx]
      omega
    · rw [if_neg hx]
      exact Nat.le_refl _
  have rup : ∀ x, s.read.getD x 0 ≤ (place s low high).read.getD x 0 := fun x => by
    rw [gr]
    by_cases hx : x = low
    · rw [if_pos hx, hx]
      omega
    · rw [if_neg hx]
      exact Nat.le_refl _
  refine ⟨by show (s.done.set _ _).length = n; rw [List.length_set, I.dl], by show (s.read.set _ _).length = n; rw [List.length_set, I.rl], fun M L hL q hq => ?_, fun L hL q hq => ?_, fun L hL => ?_, fun L hL => ?_, fun x => ?_, fun x => ?_⟩
  · -- the books
    have hL2 : (put s.found (s.at_ low high) (high, low))[M]? = some L := hL
    rw [put_get M hle] at hL2
    have old : ∀ K, s.found[M]? = some K → q ∈ K → M + 1 ≤ (place s low high).done.getD q.1 0 ∧ M ≤ (place s low high).read.getD q.2 0 := fun K hK hqK => by
      obtain ⟨b1, b2⟩ := I.bk M K hK q hqK
      have := dup q.1
      have := rup q.2
      omega
    by_cases hm : M = s.at_ low high
    · rw [if_pos hm] at hL2
      have eL := Option.some.inj hL2
      rw [← eL] at hq
      rcases List.mem_append.mp hq with hq | hq
      · cases w : s.found[s.at_ low high]? with
        | none =>
          rw [w] at hq
          cases hq
        | some K =>
          rw [w] at hq
          exact old K (by rw [hm]; exact w) hq
      · have eq : q = (high, low) := List.mem_singleton.mp hq
        rw [eq]
        show M + 1 ≤ (place s low high).done.getD high 0 ∧ M ≤ (place s low high).read.getD low 0
        rw [gd, gr, if_pos rfl, if_pos rfl, hm]
        omega
    · rw [if_neg hm] at hL2
      exact old L hL2 hq
  · rcases put_mem hle hL with ⟨K, hK, rfl⟩ | ⟨rfl, _⟩ | hL
    · rcases List.mem_append.mp hq with hq | hq
      · exact I.rg K (List.mem_of_getElem? hK) q hq
      · rw [List.mem_singleton.mp hq]
        exact ⟨h1, h2⟩
    · rw [List.mem_singleton.mp hq]
      exact ⟨h1, h2⟩
    · exact I.rg L hL q hq
  · rcases put_mem hle hL with ⟨K, hK, rfl⟩ | ⟨rfl, _⟩ | hL
    · exact fun e => by simp at e
    · exact fun e => by cases e
    · exact I.ne L hL
  · rcases put_mem hle hL with ⟨K, hK, rfl⟩ | ⟨rfl, _⟩ | hL
    · rw [List.map_append]
      refine List.nodup_append.mpr ⟨I.nd K (List.mem_of_getElem? hK), List.nodup_cons.mpr ⟨List.not_mem_nil, List.nodup_nil⟩, fun a ha b hb e => ?_⟩
      have eb : b = high := List.mem_singleton.mp hb
      obtain ⟨q, hq, eq⟩ := List.mem_map.mp ha
      obtain ⟨b1, _⟩ := I.bk _ K hK q hq
      rw [eq, e, eb] at b1
      omega
    · exact List.nodup_cons.mpr ⟨List.not_mem_nil, List.nodup_nil⟩
    · exact I.nd L hL
  · rw [gd, gl]
    have := I.dm x
    by_cases hx : x = high
    · rw [if_pos hx]
      omega
    · rw [if_neg hx]
      omega
  · rw [gr, gl]
    have := I.rm x
    have := I.rm low
    by_cases hx : x = low
    · rw [if_pos hx]
      omega
    · rw [if_neg hx]
      omega
/-- how far a phase goes: but for the highs that it touched, all is at most m -/
structure Bd (m : Nat) (T : Nat → Prop) (s : S) : Prop where
  d : ∀ x, ¬ T x → s.done.getD x 0 ≤ m
  d1 : ∀ x, s.done.getD x 0 ≤ m + 1
  r : ∀ x, s.read.getD x 0 ≤ m
  l : s.found.length ≤ m + 1
theorem place_bd {n m : Nat} {T : Nat → Prop} {s : S} (I : Inv n s) (B : Bd m T s) {low high : Nat} (h1 : ¬ T low) (h2 : ¬ T high) : Bd m (fun x => T x ∨ x = high) (place s low high) := by
  have ha : s.at_ low high ≤ m := by
    have := B.d low h1
    have := B.d high h2
    have := B.r high
    unfold S.at_
    omega
  have gd : ∀ x, (place s low high).done.getD x 0 = if x = high ∧ high < s.done.length then s.at_ low high + 1 else s.done.getD x 0 := fun x => getD_set
  have gr : ∀ x, (place s low high).read.getD x 0 = if x = low ∧ low < s.read.length then max (s.read.getD low 0) (s.at_ low high) else s.read.getD x 0 := fun x => getD_set
  refine ⟨fun x hx => ?_, fun x => ?_, fun x => ?_, ?_⟩
  · rw [gd, if_neg fun z => hx (.inr z.1)]
    exact B.d x fun z => hx (.inl z)
  · rw [gd]
    have := B.d1 x
    split <;> omega
  · rw [gr]
    have := B.r x
    have := B.r low
    split <;> omega
  · have e : (place s low high).found.length = max s.found.length (s.at_ low high + 1) := put_len (at_le I low high)
    have := B.l
    omega
/-- a phase's end is the next one's begin -/
theorem Bd.next {m : Nat} {T : Nat → Prop} {s : S} (B : Bd m T s) : Bd (m + 1) (fun _ => False) s := ⟨fun x _ => B.d1 x, fun x => by have := B.d1 x; omega, fun x => by have := B.r x; omega, by have := B.l; omega⟩
/-! ### what each line holds meanwhile -/
def v0 : St := fun x => some (x, x)
def S.v (s : S) : St := netS v0 s.found
theorem v_place {n : Nat} {s : S} (I : Inv n s) (low high : Nat) : (place s low high).v = seqS s.v (high, low) := place_goes I v0
/-- each of these lines holds all behind the one ahead of it -/
def Chain (v : St) : Nat → List Nat → Prop
  | _, [] => True
  | s, a :: r => v a = some (s, a) ∧ s ≤ a ∧ Chain v (a + 1) r
theorem Chain.ge {v : St} : ∀ {s : Nat} {l : List Nat}, Chain v s l → ∀ x ∈ l, s ≤ x
  | _, [], _, x, hx => by cases hx
  | s, a :: r, h, x, hx => by
    rcases List.mem_cons.mp hx with e | e
    · rw [e]
      exact h.2.1
    · have := Chain.ge h.2.2 x e
      have := h.2.1
      omega
theorem Chain.congr {v w : St} : ∀ {s : Nat} {l : List Nat}, Chain v s l → (∀ x ∈ l, w x = v x) → Chain w s l
  | _, [], _, _ => True.intro
  | s, a :: r, h, e => ⟨by rw [e a List.mem_cons_self]; exact h.1, h.2.1, Chain.congr h.2.2 fun x hx => e x (List.mem_cons_of_mem _ hx)⟩
/-- where the next one begins -/
def nextS (s : Nat) : List Nat → Nat
  | [] => s
  | a :: r => nextS (a + 1) r
theorem chain_append {v : St} : ∀ {s : Nat} {l m : List Nat}, Chain v s (l ++ m) ↔ Chain v s l ∧ Chain v (nextS s l) m
  | _, [], m => ⟨fun h => ⟨True.intro, h⟩, fun h => h.2⟩
  | s, a :: r, m => by
    show (v a = some (s, a) ∧ s ≤ a ∧ Chain v (a + 1) (r ++ m)) ↔ (v a = some (s, a) ∧ s ≤ a ∧ Chain v (a + 1) r) ∧ Chain v (nextS (a + 1) r) m
    rw [chain_append]
    exact ⟨fun ⟨a, b, c, d⟩ => ⟨⟨a, b, c⟩, d⟩, fun ⟨⟨a, b, c⟩, d⟩ => ⟨a, b, c, d⟩⟩
theorem nextS_append : ∀ {s : Nat} {l : List Nat} {a : Nat}, nextS s (l ++ [a]) = a + 1
  | _, [], _ => rfl
  | s, b :: r, a => nextS_append (s := b + 1) (l := r)
theorem nextS_last : ∀ {s : Nat} {l : List Nat} (h : l ≠ []), nextS s l = l.getLast h + 1
  | _, [], h => absurd rfl h
  | _, [a], _ => rfl
  | _, a :: b :: r, _ => nextS_last (s := a + 1) (l := b :: r) (by simp)
theorem Chain.lt_next {v : St} : ∀ {s : Nat} {l : List Nat}, Chain v s l → s ≤ nextS s l ∧ ∀ x ∈ l, x < nextS s l
  | s, [], _ => ⟨Nat.le_refl _, fun x hx => by cases hx⟩
  | s, a :: r, h => by
    obtain ⟨h1, h2⟩ := Chain.lt_next h.2.2
    refine ⟨by have := h.2.1; show s ≤ nextS (a + 1) r; omega, fun x hx => ?_⟩
    rcases List.mem_cons.mp hx with e | e
    · rw [e]
      exact h1
    · exact h2 x e
/-- the lines that were left, the last first: each behind one that is known by then -/
def LOk (n : Nat) : (Nat → Prop) → St → List (Nat × Nat) → Prop
  | R, _, [] => ∀ y, y < n → R y
  | R, v, (p, x) :: l => R p ∧ p < x ∧ x < n ∧ v x = some (p + 1, x) ∧ ¬ R x ∧ LOk n (fun y => R y ∨ y = x) v l
theorem LOk.congr {n : Nat} : ∀ {l : List (Nat × Nat)} {R R' : Nat → Prop} {v v' : St}, LOk n R v l → (∀ y, R y ↔ R' y) → (∀ y, ¬ R y → v' y = v y) → LOk n R' v' l
  | [], R, R', v, v', h, e, _ => fun y hy => (e y).mp (h y hy)
  | (p, x) :: l, R, R', v, v', h, e, ev => by
    obtain ⟨h1, h2, h3, h4, h5, h6⟩ := h
    refine ⟨(e p).mp h1, h2, h3, by rw [ev x h5]; exact h4, fun z => h5 ((e x).mpr z), LOk.congr h6 (fun y => ?_) fun y hy => ev y fun z => hy (.inl z)⟩
    rw [e y]
def Res (act : List Nat) (v : St) : Nat → Prop := fun y => y ∈ act ∨ v y = some (0, y)
/-- the state in a thinning turn -/
structure Th (n m : Nat) (T : Nat → Prop) (s : S) (fewer rest : List Nat) (left : List (Nat × Nat)) : Prop where
  I : Inv n s
  B : Bd m T s
  ch : Chain s.v 0 (fewer ++ rest)
  lt : ∀ x ∈ fewer ++ rest, x < n
  nt : ∀ x ∈ rest, ¬ T x
  ok : LOk n (Res (fewer ++ rest) s.v) s.v left.reverse
  cn : left.length + (fewer ++ rest).length ≤ n
  nz : fewer ++ rest ≠ []
theorem Th.keep {n m : Nat} {T : Nat → Prop} {s : S} {fewer r : List Nat} {a : Nat} {left : List (Nat × Nat)} (h : Th n m T s fewer (a :: r) left) : Th n m T s (fewer ++ [a]) r left := by
  have e : fewer ++ [a] ++ r = fewer ++ a :: r := by simp
  exact ⟨h.I, h.B, by rw [e]; exact h.ch, by rw [e]; exact h.lt, fun x hx => h.nt x (List.mem_cons_of_mem _ hx), by rw [e]; exact h.ok, by rw [e]; exact h.cn, by rw [e]; exact h.nz⟩
theorem Th.drop {n m : Nat} {T : Nat → Prop} {s : S} {fewer r : List Nat} {a b : Nat} {left : List (Nat × Nat)} (h : Th n m T s fewer (a :: b :: r) left) :
    Th n m (fun x => T x ∨ x = b) (place s a b) (fewer ++ [b]) r (if hf : fewer = [] then left else left ++ [(fewer.getLast hf, a)]) := by
  obtain ⟨c1, c2⟩ := chain_append.mp h.ch
  obtain ⟨ca, la, cb, lb, cr⟩ := c2
  obtain ⟨f1, f2⟩ := c1.lt_next
  have hb : b < n := h.lt b (by simp)
  have ha : a < n := h.lt a (by simp)
  have hab : a < b := lb
  have ev := v_place h.I a b
  have evb : (place s a b).v b = some (nextS 0 fewer, b) := by
    rw [ev]
    show upd s.v b (join (s.v a) (s.v b)) b = _
    rw [upd_same, ca, cb]
    show (if a + 1 = a + 1 then some (nextS 0 fewer, b) else none) = _
    rw [if_pos rfl]
  have evo : ∀ y, y ≠ b → (place s a b).v y = s.v y := fun y hy => by
    rw [ev]
    exact upd_ne hy
  have fne : ∀ x ∈ fewer, x < a := fun x hx => by
    have := f2 x hx
    omega
  have rgt : ∀ x ∈ r, b < x := fun x hx => cr.ge x hx
  have e2 : fewer ++ [b] ++ r = fewer ++ b :: r := by simp
  have iff1 : ∀ y, (Res (fewer ++ a :: b :: r) s.v y) ↔ (Res (fewer ++ b :: r) (place s a b).v y ∨ y = a) := fun y => by
    unfold Res
    constructor
    · rintro (hy | hy)
      · rcases List.mem_append.mp hy with hy | hy
        · exact .inl (.inl (List.mem_append_left _ hy))
        · rcases List.mem_cons.mp hy with hy | hy
          · exact .inr hy
          · exact .inl (.inl (List.mem_append_right _ hy))
      · by_cases q : y = b
        · exact .inl (.inl (by rw [q]; simp))
        · exact .inl (.inr (by rw [evo y q]; exact hy))
    · rintro ((hy | hy) | hy)
      · rcases List.mem_append.mp hy with hy | hy
        · exact .inl (List.mem_append_left _ hy)
        · exact .inl (List.mem_append_right _ (List.mem_cons_of_mem _ hy))
      · by_cases q : y = b
        · exact .inl (by rw [q]; simp)
        · exact .inr (by rw [← evo y q]; exact hy)
      · exact .inl (by rw [hy]; simp)
  refine ⟨place_inv h.I hab hb, place_bd h.I h.B (h.nt a (by simp)) (h.nt b (by simp)), ?_, fun x hx => h.lt x ?_, fun x hx z => ?_, ?_, ?_, by simp⟩
  · rw [e2]
    refine chain_append.mpr ⟨c1.congr fun x hx => evo x (by have := fne x hx; omega), evb, by omega, cr.congr fun x hx => evo x (by have := rgt x hx; omega)⟩
  · rw [e2] at hx
    rcases List.mem_append.mp hx with hx | hx
    · exact List.mem_append_left _ hx
    · exact List.mem_append_right _ (List.mem_cons_of_mem _ hx)
  · rcases z with z | z
    · exact h.nt x (by simp [hx]) z
    · have := rgt x hx
      omega
  · rw [e2]
    by_cases hf : fewer = []
    · rw [dif_pos hf]
      refine h.ok.congr (fun y => (iff1 y).trans ⟨fun z => z.elim id fun z => ?_, .inl⟩) fun y hy => evo y fun z => hy (.inl (by rw [z]; simp))
      refine .inr ?_
      rw [z, evo a (by omega), ca, hf]
      rfl
    · rw [dif_neg hf, List.reverse_append]
      have en : nextS 0 fewer = fewer.getLast hf + 1 := nextS_last hf
      have lm : fewer.getLast hf ∈ fewer := List.getLast_mem hf
      refine ⟨.inl (List.mem_append_left _ lm), fne _ lm, ha, by rw [evo a (by omega), ca, en], ?_, h.ok.congr iff1 fun y hy => evo y fun z => hy (.inl (by rw [z]; simp))⟩
      rintro (z | z)
      · rcases List.mem_append.mp z with z | z
        · have := fne a z
          omega
        · rcases List.mem_cons.mp z with z | z
          · omega
          · have := rgt a z
            omega
      · rw [evo a (by omega), ca] at z
        have := congrArg Prod.fst (Option.some.inj z)
        dsimp only at this
        omega
  · have c := h.cn
    simp only [List.length_append, List.length_cons, List.length_nil] at c ⊢
    split
    · omega
    · simp only [List.length_append, List.length_cons, List.length_nil]
      omega
/-- a turn's end is the next one's begin -/
theorem Th.turn {n m : Nat} {T : Nat → Prop} {s : S} {act : List Nat} {left : List (Nat × Nat)} (h : Th n m T s act [] left) : Th n (m + 1) (fun _ => False) s [] act left := by
  have e : act ++ [] = [] ++ act := by simp
  exact ⟨h.I, h.B.next, by rw [← e]; exact h.ch, by rw [← e]; exact h.lt, fun _ _ z => z, by rw [← e]; exact h.ok, by rw [← e]; exact h.cn, by rw [← e]; exact h.nz⟩
theorem Th.flip {n m : Nat} {T : Nat → Prop} {s : S} {act : List Nat} {left : List (Nat × Nat)} (h : Th n m T s [] act left) : Th n m T s act [] left := by
  have e : act ++ [] = [] ++ act := by simp
  exact ⟨h.I, h.B, by rw [e]; exact h.ch, by rw [e]; exact h.lt, (fun _ hx => by cases hx), by rw [e]; exact h.ok, by rw [e]; exact h.cn, by rw [e]; exact h.nz⟩
theorem chain_range {v : St} {n : Nat} (h : ∀ x, x < n → v x = some (x, x)) : ∀ (k s : Nat), s + k ≤ n → Chain v s (List.range' s k)
  | 0, _, _ => True.intro
  | k + 1, s, hs => ⟨h s (by omega), Nat.le_refl _, chain_range h k (s + 1) (by omega)⟩
/-- the very begin -/
theorem Th.start (n : Nat) (hn : 0 < n) : Th n 0 (fun _ => False) ⟨[], List.replicate n 0, List.replicate n 0⟩ [] (List.range n) [] := by
  have z : ∀ x, (List.replicate n 0).getD x 0 = 0 := fun x => by
    rw [List.getD_eq_getElem?_getD, List.getElem?_replicate]
    split <;> rfl
  refine ⟨⟨List.length_replicate, List.length_replicate, fun M L h => by simp at h, fun L h => by simp at h, fun L h => by simp at h, fun L h => by simp at h, fun x => by rw [z]; exact Nat.zero_le _, fun x => by rw [z]; exact Nat.zero_le _⟩, ⟨fun x _ => by rw [z]; exact Nat.le_refl _, fun x => by rw [z]; exact Nat.zero_le _, fun x => by rw [z]; exact Nat.le_refl _, Nat.zero_le _⟩, ?_, fun x hx => List.mem_range.mp (by simpa using hx), fun _ _ z => z, fun y hy => .inl (by simpa using hy), by simp, by simp; omega⟩
  rw [List.nil_append, List.range_eq_range']
  exact chain_range (n := n) (fun x _ => rfl) n 0 (by omega)
/-! ### groups -/
def Up : Nat → List Nat → Prop
  | _, [] => True
  | s, a :: r => s ≤ a ∧ Up (a + 1) r
theorem up_append : ∀ {s : Nat} {l m : List Nat}, Up s (l ++ m) ↔ Up s l ∧ Up (nextS s l) m
  | _, [], m => ⟨fun h => ⟨True.intro, h⟩, fun h => h.2⟩
  | s, a :: r, m => by
    show (s ≤ a ∧ Up (a + 1) (r ++ m)) ↔ (s ≤ a ∧ Up (a + 1) r) ∧ Up (nextS (a + 1) r) m
    rw [up_append]
    exact ⟨fun ⟨a, b, c⟩ => ⟨⟨a, b⟩, c⟩, fun ⟨⟨a, b⟩, c⟩ => ⟨a, b, c⟩⟩
theorem Up.facts : ∀ {s : Nat} {l : List Nat}, Up s l → s ≤ nextS s l ∧ (∀ x ∈ l, s ≤ x ∧ x < nextS s l) ∧ l.Nodup
  | s, [], _ => ⟨Nat.le_refl _, (fun x hx => by cases hx), List.nodup_nil⟩
  | s, a :: r, h => by
    obtain ⟨h1, h2, h3⟩ := Up.facts h.2
    have ha := h.1
    refine ⟨by show s ≤ nextS (a + 1) r; omega, fun x hx => ?_, List.nodup_cons.mpr ⟨fun m => by have := (h2 a m).1; omega, h3⟩⟩
    rcases List.mem_cons.mp hx with e | e
    · rw [e]
      exact ⟨ha, h1⟩
    · obtain ⟨q1, q2⟩ := h2 x e
      exact ⟨by omega, q2⟩
theorem nextS_app : ∀ {s : Nat} {l m : List Nat}, nextS s (l ++ m) = nextS (nextS s l) m
  | _, [], _ => rfl
  | s, a :: r, m => nextS_app (s := a + 1) (l := r)
/-- each group's lines hold all from the group's begin on -/
def GC (v : St) : Nat → List (List Nat) → Prop
  | _, [] => True
  | s, g :: r => g ≠ [] ∧ (∀ x ∈ g, v x = some (s, x)) ∧ Up s g ∧ GC v (nextS s g) r
theorem gc_append {v : St} : ∀ {s : Nat} {l m : List (List Nat)}, GC v s (l ++ m) ↔ GC v s l ∧ GC v (nextS s l.flatten) m
  | _, [], m => ⟨fun h => ⟨True.intro, h⟩, fun h => h.2⟩
  | s, g :: r, m => by
    show (g ≠ [] ∧ (∀ x ∈ g, v x = some (s, x)) ∧ Up s g ∧ GC v (nextS s g) (r ++ m)) ↔ (g ≠ [] ∧ (∀ x ∈ g, v x = some (s, x)) ∧ Up s g ∧ GC v (nextS s g) r) ∧ GC v (nextS s (g ++ r.flatten)) m
    rw [gc_append, nextS_app]
    exact ⟨fun ⟨a, b, c, d, e⟩ => ⟨⟨a, b, c, d⟩, e⟩, fun ⟨⟨a, b, c, d⟩, e⟩ => ⟨a, b, c, d, e⟩⟩
theorem GC.up {v : St} : ∀ {s : Nat} {l : List (List Nat)}, GC v s l → Up s l.flatten
  | _, [], _ => True.intro
  | s, g :: r, h => up_append.mpr ⟨h.2.2.1, GC.up h.2.2.2⟩
theorem GC.congr {v w : St} : ∀ {s : Nat} {l : List (List Nat)}, GC v s l → (∀ x ∈ l.flatten, w x = v x) → GC w s l
  | _, [], _, _ => True.intro
  | s, g :: r, h, e => ⟨h.1, fun x hx => by rw [e x (List.mem_append_left _ hx)]; exact h.2.1 x hx, h.2.2.1, GC.congr h.2.2.2 fun x hx => e x (List.mem_append_right _ hx)⟩
theorem GC.ofChain {v : St} : ∀ {s : Nat} {l : List Nat}, Chain v s l → GC v s (l.map fun a => [a])
  | _, [], _ => True.intro
  | s, a :: r, h => ⟨by simp, fun x hx => by rw [List.mem_singleton.mp hx]; exact h.1, ⟨h.2.1, True.intro⟩, GC.ofChain h.2.2⟩
theorem flat_single : ∀ l : List Nat, (l.map fun a => [a]).flatten = l
  | [] => rfl
  | a :: r => by
    show [a] ++ (r.map fun a => [a]).flatten = a :: r
    rw [flat_single r]
    rfl
/-- one line led to each of some others -/
theorem lead_all {n m a low : Nat} : ∀ {Q : List Nat} {P : Nat → Prop} {s : S}, Inv n s → Bd m P s → s.v low = some (a, low) → ¬ P low → (∀ h ∈ Q, low < h ∧ h < n ∧ ¬ P h ∧ s.v h = some (low + 1, h)) → Q.Nodup →
    ∃ P', Inv n (Q.foldl (fun s h => place s low h) s) ∧ Bd m P' (Q.foldl (fun s h => place s low h) s) ∧ ∀ y, (Q.foldl (fun s h => place s low h) s).v y = if y ∈ Q then some (a, y) else s.v y
  | [], P, s, I, B, _, _, _, _ => ⟨P, I, B, fun y => by rw [if_neg (by simp)]; rfl⟩
  | h :: Q, P, s, I, B, hl, nl, hq, nd => by
    obtain ⟨l1, l2, l3, l4⟩ := hq h List.mem_cons_self
    obtain ⟨n1, n2⟩ := List.nodup_cons.mp nd
    have ev := v_place I low h
    have evo : ∀ y, y ≠ h → (place s low h).v y = s.v y := fun y hy => by
      rw [ev]
      exact upd_ne hy
    have evh : (place s low h).v h = some (a, h) := by
      rw [ev]
      show upd s.v h (join (s.v low) (s.v h)) h = _
      rw [upd_same, hl, l4]
      show (if low + 1 = low + 1 then some (a, h) else none) = _
      rw [if_pos rfl]
    obtain ⟨P', I', B', e'⟩ := lead_all (Q := Q) (place_inv I l1 l2) (place_bd I B nl l3) (by rw [evo low (by omega)]; exact hl) (fun z => z.elim nl fun z => by omega) (fun x hx => by
      obtain ⟨q1, q2, q3, q4⟩ := hq x (List.mem_cons_of_mem _ hx)
      have ne : x ≠ h := fun e => n1 (by rw [← e]; exact hx)
      exact ⟨q1, q2, fun z => z.elim q3 ne, by rw [evo x ne]; exact q4⟩) n2
    refine ⟨P', I', B', fun y => ?_⟩
    show (Q.foldl (fun s h => place s low h) (place s low h)).v y = _
    rw [e']
    by_cases hy : y ∈ Q
    · rw [if_pos hy, if_pos (List.mem_cons_of_mem _ hy)]
    · rw [if_neg hy]
      by_cases hyh : y = h
      · rw [hyh, evh, if_pos List.mem_cons_self]
      · rw [evo y hyh, if_neg fun z => (List.mem_cons.mp z).elim hyh hy]
structure Gr (n m : Nat) (s : S) (groups : List (List Nat)) (left : List (Nat × Nat)) : Prop where
  I : Inv n s
  B : Bd m (fun _ => False) s
  gc : GC s.v 0 groups
  lt : ∀ x ∈ groups.flatten, x < n
  ok : LOk n (Res groups.flatten s.v) s.v left.reverse
theorem Th.groups {n m : Nat} {T : Nat → Prop} {s : S} {act : List Nat} {left : List (Nat × Nat)} (h : Th n m T s act [] left) : Gr n (m + 1) s (act.map fun a => [a]) left := by
  have e : act ++ [] = act := by simp
  exact ⟨h.I, h.B.next, GC.ofChain (by rw [← e]; exact h.ch), by rw [flat_single, ← e]; exact h.lt, by rw [flat_single, ← e]; exact h.ok⟩
theorem Gr.merge {n m : Nat} {s : S} {pre post : List (List Nat)} {g1 g2 : List Nat} {left : List (Nat × Nat)} (h : Gr n m s (pre ++ g1 :: g2 :: post) left) (hn : g1 ≠ []) :
    Gr n (m + 1) (g2.foldl (fun s x => place s (g1.getLast hn) x) s) (pre ++ (g1 ++ g2) :: post) left := by
  obtain ⟨p1, p2⟩ := gc_append.mp h.gc
  obtain ⟨_, a2, a3, b1, b2, b3, b4⟩ := p2
  obtain ⟨u1, u2, u3⟩ := p1.up.facts
  obtain ⟨w1, w2, w3⟩ := a3.facts
  obtain ⟨x1, x2, x3⟩ := b3.facts
  have en : nextS (nextS 0 pre.flatten) g1 = g1.getLast hn + 1 := nextS_last hn
  have lm := List.getLast_mem hn
  have ef : (pre ++ g1 :: g2 :: post).flatten = (pre ++ (g1 ++ g2) :: post).flatten := by simp
  have hlt : ∀ x ∈ g2, x < n := fun x hx => h.lt x (by simp [hx])
  obtain ⟨P', I', B', e'⟩ := lead_all (m := m) (a := nextS 0 pre.flatten) (low := g1.getLast hn) (Q := g2) h.I h.B (a2 _ lm) (fun z => z) (fun x hx => by
    have := (x2 x hx).1
    exact ⟨by omega, hlt x hx, fun z => z, by rw [b2 x hx, en]⟩) x3
  refine ⟨I', B'.next, ?_, by rw [← ef]; exact h.lt, ?_⟩
  · refine gc_append.mpr ⟨p1.congr fun x hx => ?_, by simp [hn], fun x hx => ?_, up_append.mpr ⟨a3, b3⟩, ?_⟩
    · rw [e', if_neg fun z => ?_]
      have := (u2 x hx).2
      have := (x2 x z).1
      omega
    · rw [e']
      rcases List.mem_append.mp hx with hx | hx
      · by_cases z : x ∈ g2
        · rw [if_pos z]
        · rw [if_neg z]
          exact a2 x hx
      · rw [if_pos hx]
    · rw [nextS_app]
      refine b4.congr fun x hx => ?_
      rw [e', if_neg fun z => ?_]
      have := (b4.up.facts.2.1 x hx).1
      have := (x2 x z).2
      omega
  · rw [← ef]
    refine h.ok.congr (fun y => ?_) fun y hy => by rw [e', if_neg fun z => hy (.inl (by simp [z]))]
    unfold Res
    rw [e']
    by_cases z : y ∈ g2
    · exact ⟨fun _ => .inl (by simp [z]), fun _ => .inl (by simp [z])⟩
    · rw [if_neg z]
/-- the lines that were left, led at last -/
theorem left_goes {n : Nat} : ∀ {l : List (Nat × Nat)} {R : Nat → Prop} {s : S} {m : Nat}, Inv n s → Bd m (fun _ => False) s → LOk n R s.v l → (∀ y, R y → s.v y = some (0, y)) →
    Inv n (l.foldl (fun s q => place s q.1 q.2) s) ∧ Bd (m + l.length) (fun _ => False) (l.foldl (fun s q => place s q.1 q.2) s) ∧ ∀ y, y < n → (l.foldl (fun s q => place s q.1 q.2) s).v y = some (0, y)
  | [], R, s, m, I, B, h, hr => ⟨I, B, fun y hy => hr y (h y hy)⟩
  | (p, x) :: l, R, s, m, I, B, h, hr => by
    obtain ⟨h1, h2, h3, h4, h5, h6⟩ := h
    have ev := v_place I p x
    have evo : ∀ y, y ≠ x → (place s p x).v y = s.v y := fun y hy => by
      rw [ev]
      exact upd_ne hy
    have evx : (place s p x).v x = some (0, x) := by
      rw [ev]
      show upd s.v x (join (s.v p) (s.v x)) x = _
      rw [upd_same, hr p h1, h4]
      show (if p + 1 = p + 1 then some (0, x) else none) = _
      rw [if_pos rfl]
    obtain ⟨a, b, c⟩ := left_goes (l := l) (place_inv I h2 h3) (place_bd I B (fun z => z) (fun z => z)).next (h6.congr (fun _ => Iff.rfl) fun y hy => evo y fun z => hy (.inr z)) (fun y hy => by
      by_cases q : y = x
      · rw [q, evx]
      · rw [evo y q]
        exact hr y (hy.resolve_right q))
    refine ⟨a, ?_, c⟩
    have e : m + 1 + l.length = m + ((p, x) :: l).length := by
      rw [List.length_cons]
      omega
    rw [← e]
    exact b
/-- one group, and the lines that were left: it tells -/
theorem Gr.ends {n m : Nat} {s : S} {g : List Nat} {left : List (Nat × Nat)} (h : Gr n m s [g] left) :
    Inv n (left.reverse.foldl (fun s q => place s q.1 q.2) s) ∧ (left.reverse.foldl (fun s q => place s q.1 q.2) s).found.length ≤ m + left.length + 1 ∧ ∀ y, y < n → (left.reverse.foldl (fun s q => place s q.1 q.2) s).v y = some (0, y) := by
  obtain ⟨a, b, c⟩ := left_goes h.I h.B h.ok (fun y hy => hy.elim (fun z => h.gc.2.1 y (by simpa using z)) id)
  exact ⟨a, by have := b.l; rwa [List.length_reverse] at this, c⟩
end Tell
namespace LK
open L2 G PySem PySem.Spec PyProof.Rows
def top (i : Nat) : Stmt := PySem.Challenge.pw_beginnet_k08_whole_layers_and_joints.main.body.getD i (.Pass ⟨0, 0, 0, 0⟩)
def inCls (i j : Nat) : Stmt := match top i with
  | .ClassDef _ _ _ body .. => body.getD j (.Pass ⟨0, 0, 0, 0⟩)
  | s => s
structure X4c (K : PySem.W.Frag) (mg : Str → Option Value) (x : Str) (C : Addr) : Prop where
  exc : PySem.W.excIn K C He.veBase "ValueError.__new__" = true
  mg : mg x = some (.ref C)
  keep : PySem.W.keepIn K (.ref C) = true
  sub : PySem.W.subIn K (.ref C) (.type "BaseException") = some true
  ty : PySem.W.typeIn K (.ref C) = some (.type "type")
theorem X4c.raises {X : Cx} {x : Str} {C : Addr} (h : X4c X.K X.mg x C) : Raises X (.ref C) := raises_own h.sub h.ty
structure Bt (K : PySem.W.Frag) (mg : Str → Option Value) (ct : Ct) : Prop where
  len : mg "len" = none
  isinstance : mg "isinstance" = none
  range : mg "range" = none
  int : mg "int" = none
  bool : mg "bool" = none
  str : mg "str" = none
  tuple : mg "tuple" = none
  list : mg "list" = none
  max : mg "max" = none
  min : mg "min" = none
  sum : mg "sum" = none
  all : mg "all" = none
  sorted : mg "sorted" = none
  reversed : mg "reversed" = none
  zip : mg "zip" = none
  abs : mg "abs" = none
  x_lines : X4c K mg "BadLines" ct.lines
  x_nonet : X4c K mg "NoNet" ct.nonet
  c_MOST_LINES : ∃ t, mg "MOST_LINES" = some (.int 64 t)
  c_MOST_LAYERS : ∃ t, mg "MOST_LAYERS" = some (.int 80 t)
section
variable {P : Program} {w : World} {K : PySem.W.Frag} {mg : Str → Option Value} {base : Heap} {ct : Ct} {ne : Addr}
abbrev s_is_whole : Stmt := top 6
theorem sc_is_whole : FnScope ["thing"] ["thing"] (defScope s_is_whole) := ⟨rfl, rfl, rfl, by decide +kernel, rfl, by decide +kernel, by decide +kernel⟩
structure D_is_whole (P : Program) (w : World) (K : PySem.W.Frag) (mg : Str → Option Value) (base : Heap) (ct : Ct) : Prop where
  u_ : True
def c_is_whole : En → M Fl := sRet (xAnd (xUn (opIs .int) (xVar 0)) (xNot (xUn (opIs .bool) (xVar 0))))
def f_is_whole : List D → Rp := runP c_is_whole 1
theorem F_is_whole (a0 : D) : f_is_whole [a0] = kP (c_is_whole [some a0] []) := rfl
theorem d_is_whole (F : ∃ fa fd, mg "is_whole" = some (.ref fa) ∧ FunG K "is_whole" s_is_whole fa fd) (B : Bt K mg ct) (D : D_is_whole P w K mg base ct) : Dp' P w K mg base 2 "is_whole" ["thing"] (spP K ct 1 f_is_whole) := by
  obtain ⟨fa, fd, hm, F⟩ := F
  have nd := sc_is_whole.nd
  refine ⟨fa, fd, hm, F.kp, F.bindsN (fun _ _ _ _ _ _ us hl => match us, hl with | [_], _ => rfl), def_P (k := 1) F sc_is_whole rfl fun cdv A outer s H E hr => ?_⟩
  have tk := takes_of (X := cxG P w K mg base ["thing"] "is_whole" s_is_whole fa cdv A outer s H E) rfl rfl rfl rfl
  exact (gs_one (gs_ret (ge_and (ge_isi (T := .int) rfl B.isinstance rfl B.int (by decide +kernel) (ge_var (pv 0))) (ge_one (ge_not (ge_isi (T := .bool) rfl B.isinstance rfl B.bool (by decide +kernel) (ge_var (pv 0))))))))
abbrev s_is_among : Stmt := top 7
theorem sc_is_among : FnScope ["thing", "least", "most"] ["thing", "least", "most"] (defScope s_is_among) := ⟨rfl, rfl, rfl, by decide +kernel, rfl, by decide +kernel, by decide +kernel⟩
structure D_is_among (P : Program) (w : World) (K : PySem.W.Frag) (mg : Str → Option Value) (base : Heap) (ct : Ct) : Prop where
  is_whole : Dp' P w K mg base 2 "is_whole" ["thing"] (spP K ct 1 f_is_whole)
  u_ : True
def c_is_among : En → M Fl := sRet (xAnd (xCallP f_is_whole (aCons (xVar 0) (aNil))) (xChain opLe opLe (xVar 1) (xVar 0) (xVar 2)))
def f_is_among : List D → Rp := runP c_is_among 3
theorem F_is_among (a0 a1 a2 : D) : f_is_among [a0, a1, a2] = kP (c_is_among [some a0, some a1, some a2] []) := rfl
theorem d_is_among (F : ∃ fa fd, mg "is_among" = some (.ref fa) ∧ FunG K "is_among" s_is_among fa fd) (B : Bt K mg ct) (D : D_is_among P w K mg base ct) : Dp' P w K mg base 3 "is_among" ["thing", "least", "most"] (spP K ct 3 f_is_among) := by
  obtain ⟨fa, fd, hm, F⟩ := F
  have nd := sc_is_among.nd
  refine ⟨fa, fd, hm, F.kp, F.bindsN (fun _ _ _ _ _ _ us hl => match us, hl with | [_, _, _], _ => rfl), def_P (k := 2) F sc_is_among rfl fun cdv A outer s H E hr => ?_⟩
  have tk := takes_of (X := cxG P w K mg base ["thing", "least", "most"] "is_among" s_is_among fa cdv A outer s H E) rfl rfl rfl rfl
  exact (gs_one (gs_ret (ge_and (gc_P D.is_whole hr (by decide) tk rfl (an_cons an_nil) (ga_cons (ge_var (pv 0)) ga_nil)) (ge_one (ge_chain op_le od_le op_le od_le (ge_var (pv 1)) (ge_var (pv 0)) (ge_var (pv 2)))))))
abbrev s_need_lines : Stmt := top 11
theorem sc_need_lines : FnScope ["lines"] ["lines"] (defScope s_need_lines) := ⟨rfl, rfl, rfl, by decide +kernel, rfl, by decide +kernel, by decide +kernel⟩
structure D_need_lines (P : Program) (w : World) (K : PySem.W.Frag) (mg : Str → Option Value) (base : Heap) (ct : Ct) : Prop where
  is_among : Dp' P w K mg base 3 "is_among" ["thing", "least", "most"] (spP K ct 3 f_is_among)
  u_ : True
def c_need_lines : En → M Fl := sIf (bNot (bVal (xCallP f_is_among (aCons (xVar 0) (aCons (xC (.int 1)) (aCons (xC (.int 64)) (aNil))))))) (sRaise .lines) (sSkip)
def f_need_lines : List D → Rp := runP c_need_lines 1
theorem F_need_lines (a0 : D) : f_need_lines [a0] = kP (c_need_lines [some a0] []) := rfl
theorem d_need_lines (F : ∃ fa fd, mg "need_lines" = some (.ref fa) ∧ FunG K "need_lines" s_need_lines fa fd) (B : Bt K mg ct) (D : D_need_lines P w K mg base ct) : Dp' P w K mg base 4 "need_lines" ["lines"] (spP K ct 1 f_need_lines) := by
  obtain ⟨fa, fd, hm, F⟩ := F
  have nd := sc_need_lines.nd
  refine ⟨fa, fd, hm, F.kp, F.bindsN (fun _ _ _ _ _ _ us hl => match us, hl with | [_], _ => rfl), def_P (k := 3) F sc_need_lines rfl fun cdv A outer s H E hr => ?_⟩
  have tk := takes_of (X := cxG P w K mg base ["lines"] "need_lines" s_need_lines fa cdv A outer s H E) rfl rfl rfl rfl
  exact (gs_one (gs_if (gt_not (gt_val (gc_P D.is_among hr (by decide) tk rfl (an_cons (an_cons (an_cons an_nil))) (ga_cons (ge_var (pv 0)) (ga_cons ge_int (ga_cons (ge_gint B.c_MOST_LINES rfl) ga_nil)))))) (gs_one (gs_raise4 .lines rfl tk B.x_lines.exc B.x_lines.mg B.x_lines.keep (B.x_lines.raises) rfl)) gs_nil))
abbrev s_is_joint : Stmt := top 12
theorem sc_is_joint : FnScope ["thing", "lines"] ["thing", "lines"] (defScope s_is_joint) := ⟨rfl, rfl, rfl, by decide +kernel, rfl, by decide +kernel, by decide +kernel⟩
structure D_is_joint (P : Program) (w : World) (K : PySem.W.Frag) (mg : Str → Option Value) (base : Heap) (ct : Ct) : Prop where
  is_among : Dp' P w K mg base 3 "is_among" ["thing", "least", "most"] (spP K ct 3 f_is_among)
  u_ : True
def c_is_joint : En → M Fl := sSeq (sIf (bOr (bNot (bVal (xUn (opIs .tuple) (xVar 0)))) (bVal (xBin (opEq false) (xCall opLen (aCons (xVar 0) (aNil))) (xC (.int 2))))) (sRet (xC (.bl false))) (sSkip)) (sSeq (sIf (bOr (bNot (bVal (xCallP f_is_among (aCons (xBin opIx (xVar 0) (xC (.int 0))) (aCons (xC (.int 0)) (aCons (xBin opSub (xVar 1) (xC (.int 1))) (aNil))))))) (bNot (bVal (xCallP f_is_among (aCons (xBin opIx (xVar 0) (xC (.int 1))) (aCons (xC (.int 0)) (aCons (xBin opSub (xVar 1) (xC (.int 1))) (aNil)))))))) (sRet (xC (.bl false))) (sSkip)) (sRet (xBin opLt (xBin opIx (xVar 0) (xC (.int 0))) (xBin opIx (xVar 0) (xC (.int 1))))))
def f_is_joint : List D → Rp := runP c_is_joint 2
theorem F_is_joint (a0 a1 : D) : f_is_joint [a0, a1] = kP (c_is_joint [some a0, some a1] []) := rfl
theorem d_is_joint (F : ∃ fa fd, mg "is_joint" = some (.ref fa) ∧ FunG K "is_joint" s_is_joint fa fd) (B : Bt K mg ct) (D : D_is_joint P w K mg base ct) : Dp' P w K mg base 4 "is_joint" ["thing", "lines"] (spP K ct 2 f_is_joint) := by
  obtain ⟨fa, fd, hm, F⟩ := F
  have nd := sc_is_joint.nd
  refine ⟨fa, fd, hm, F.kp, F.bindsN (fun _ _ _ _ _ _ us hl => match us, hl with | [_, _], _ => rfl), def_P (k := 3) F sc_is_joint rfl fun cdv A outer s H E hr => ?_⟩
  have tk := takes_of (X := cxG P w K mg base ["thing", "lines"] "is_joint" s_is_joint fa cdv A outer s H E) rfl rfl rfl rfl
  exact (gs_cons (gs_if (PW.pt (gw_or (gt_not (gt_val (ge_isi (T := .tuple) rfl B.isinstance rfl B.tuple (by decide +kernel) (ge_var (pv 0))))) (gw_or1 (gt_cmp (op_neD hr.units) od_ne (ge_callB call_len cd_len rfl B.len PySem.boot_len (ga_cons (ge_var (pv 0)) ga_nil)) ge_int (nomark _))))) (gs_one (gs_ret ge_bl)) gs_nil) (gs_cons (gs_if (PW.pt (gw_or (gt_not (gt_val (gc_P D.is_among hr (by decide) tk rfl (an_cons (an_cons (an_cons an_nil))) (ga_cons (ge_ix ix_seq od_ix (ge_var (pv 0)) ge_int (fun _ _ => rfl)) (ga_cons ge_int (ga_cons (ge_op op_sub od_sub (ge_var (pv 1)) ge_int) ga_nil)))))) (gw_or1 (gt_not (gt_val (gc_P D.is_among hr (by decide) tk rfl (an_cons (an_cons (an_cons an_nil))) (ga_cons (ge_ix ix_seq od_ix (ge_var (pv 0)) ge_int (fun _ _ => rfl)) (ga_cons ge_int (ga_cons (ge_op op_sub od_sub (ge_var (pv 1)) ge_int) ga_nil))))))))) (gs_one (gs_ret ge_bl)) gs_nil) (gs_one (gs_ret (ge_cmp op_lt od_lt (ge_ix ix_seq od_ix (ge_var (pv 0)) ge_int (fun _ _ => rfl)) (ge_ix ix_seq od_ix (ge_var (pv 0)) ge_int (fun _ _ => rfl)) (nomark _))))))
abbrev s_is_layer : Stmt := top 13
theorem sc_is_layer : FnScope ["thing", "lines", "last", "joint"] ["thing", "lines"] (defScope s_is_layer) := ⟨rfl, rfl, rfl, by decide +kernel, rfl, by decide +kernel, by decide +kernel⟩
structure D_is_layer (P : Program) (w : World) (K : PySem.W.Frag) (mg : Str → Option Value) (base : Heap) (ct : Ct) : Prop where
  is_joint : Dp' P w K mg base 4 "is_joint" ["thing", "lines"] (spP K ct 2 f_is_joint)
  u_ : True
def b_is_layer_0 : En → M Fl := sSeq (sIf (bOr (bNot (bVal (xCallP f_is_joint (aCons (xVar 3) (aCons (xVar 1) (aNil)))))) (bVal (xBin opLe (xBin opIx (xVar 3) (xC (.int 1))) (xVar 2)))) (sRet (xC (.bl false))) (sSkip)) (sAsg (xBin opIx (xVar 3) (xC (.int 1))) (.nm 2))
def l_is_layer_0 : En → M Fl := sFor (itSeq (xVar 0)) (.nm 3) b_is_layer_0
def c_is_layer : En → M Fl := sSeq (sIf (bOr (bNot (bVal (xUn (opIs .list) (xVar 0)))) (bVal (xBin (opEq true) (xCall opLen (aCons (xVar 0) (aNil))) (xC (.int 0))))) (sRet (xC (.bl false))) (sSkip)) (sSeq (sAsg (xC (.int 0)) (.nm 2)) (sSeq (l_is_layer_0) (sRet (xC (.bl true)))))
def f_is_layer : List D → Rp := runP c_is_layer 4
theorem F_is_layer (a0 a1 : D) : f_is_layer [a0, a1] = kP (c_is_layer [some a0, some a1, none, none] []) := rfl
theorem d_is_layer (F : ∃ fa fd, mg "is_layer" = some (.ref fa) ∧ FunG K "is_layer" s_is_layer fa fd) (B : Bt K mg ct) (D : D_is_layer P w K mg base ct) : Dp' P w K mg base 5 "is_layer" ["thing", "lines"] (spP K ct 2 f_is_layer) := by
  obtain ⟨fa, fd, hm, F⟩ := F
  have nd := sc_is_layer.nd
  refine ⟨fa, fd, hm, F.kp, F.bindsN (fun _ _ _ _ _ _ us hl => match us, hl with | [_, _], _ => rfl), def_P (k := 4) F sc_is_layer rfl fun cdv A outer s H E hr => ?_⟩
  have tk := takes_of (X := cxG P w K mg base ["thing", "lines", "last", "joint"] "is_layer" s_is_layer fa cdv A outer s H E) rfl rfl rfl rfl
  have hp : PassesOwn (model P w) _ _ (cxG P w K mg base ["thing", "lines", "last", "joint"] "is_layer" s_is_layer fa cdv A outer s H E).xe := passes_of rfl
  exact (gs_cons (gs_if (PW.pt (gw_or (gt_not (gt_val (ge_isi (T := .list) rfl B.isinstance rfl B.list (by decide +kernel) (ge_var (pv 0))))) (gw_or1 (gt_cmp (op_eqD hr.units) od_eq (ge_callB call_len cd_len rfl B.len PySem.boot_len (ga_cons (ge_var (pv 0)) ga_nil)) ge_int (nomark _))))) (gs_one (gs_ret ge_bl)) gs_nil) (gs_cons (gs_asg (t := .nm 2) (ps_set nd rfl (by first | exact .inl rfl | exact .inr rfl) ge_int)) (gs_cons (gs_for (it := itSeq (xVar 0)) (b := b_is_layer_0) (t := .nm 3) hp rfl (gi_seq (ge_var (pv 0))) (pg_name (i := 3) nd rfl (by first | exact .inl rfl | exact .inr rfl)) (gs_cons (gs_if (PW.pt (gw_or (gt_not (gt_val (gc_P D.is_joint hr (by decide) tk rfl (an_cons (an_cons an_nil)) (ga_cons (ge_var (pv 3)) (ga_cons (ge_var (pv 1)) ga_nil))))) (gw_or1 (gt_cmp op_le od_le (ge_ix ix_seq od_ix (ge_var (pv 3)) ge_int (fun _ _ => rfl)) (ge_var (pv 2)) (nomark _))))) (gs_one (gs_ret ge_bl)) gs_nil) (gs_one (gs_asg (t := .nm 2) (ps_set nd rfl (by first | exact .inl rfl | exact .inr rfl) (ge_ix ix_seq od_ix (ge_var (pv 3)) ge_int (fun _ _ => rfl))))))) (gs_one (gs_ret ge_bl)))))
abbrev s_need_layers : Stmt := top 14
theorem sc_need_layers : FnScope ["lines", "net", "at"] ["lines", "net"] (defScope s_need_layers) := ⟨rfl, rfl, rfl, by decide +kernel, rfl, by decide +kernel, by decide +kernel⟩
structure D_need_layers (P : Program) (w : World) (K : PySem.W.Frag) (mg : Str → Option Value) (base : Heap) (ct : Ct) : Prop where
  is_layer : Dp' P w K mg base 5 "is_layer" ["thing", "lines"] (spP K ct 2 f_is_layer)
  u_ : True
def b_need_layers_0 : En → M Fl := sIf (bNot (bVal (xCallP f_is_layer (aCons (xBin opIx (xVar 1) (xVar 2)) (aCons (xVar 0) (aNil)))))) (sNever) (sSkip)
def l_need_layers_0 : En → M Fl := sFor (itR1 (xCall opLen (aCons (xVar 1) (aNil)))) (.nm 2) b_need_layers_0
def c_need_layers : En → M Fl := sSeq (sIf (bOr (bNot (bVal (xUn (opIs .list) (xVar 1)))) (bVal (xBin opGt (xCall opLen (aCons (xVar 1) (aNil))) (xC (.int 80))))) (sNever) (sSkip)) (l_need_layers_0)
def f_need_layers : List D → Rp := runP c_need_layers 3
theorem F_need_layers (a0 a1 : D) : f_need_layers [a0, a1] = kP (c_need_layers [some a0, some a1, none] []) := rfl
theorem d_need_layers (F : ∃ fa fd, mg "need_layers" = some (.ref fa) ∧ FunG K "need_layers" s_need_layers fa fd) (B : Bt K mg ct) (D : D_need_layers P w K mg base ct) : Dp' P w K mg base 6 "need_layers" ["lines", "net"] (spP K ct 2 f_need_layers) := by
  obtain ⟨fa, fd, hm, F⟩ := F
  have nd := sc_need_layers.nd
  refine ⟨fa, fd, hm, F.kp, F.bindsN (fun _ _ _ _ _ _ us hl => match us, hl with | [_, _], _ => rfl), def_P (k := 5) F sc_need_layers rfl fun cdv A outer s H E hr => ?_⟩
  have tk := takes_of (X := cxG P w K mg base ["lines", "net", "at"] "need_layers" s_need_layers fa cdv A outer s H E) rfl rfl rfl rfl
  have hp : PassesOwn (model P w) _ _ (cxG P w K mg base ["lines", "net", "at"] "need_layers" s_need_layers fa cdv A outer s H E).xe := passes_of rfl
  exact (gs_cons (gs_if (PW.pt (gw_or (gt_not (gt_val (ge_isi (T := .list) rfl B.isinstance rfl B.list (by decide +kernel) (ge_var (pv 1))))) (gw_or1 (gt_cmp op_gt od_gt (ge_callB call_len cd_len rfl B.len PySem.boot_len (ga_cons (ge_var (pv 1)) ga_nil)) (ge_gint B.c_MOST_LAYERS rfl) (nomark _))))) (gs_one gs_never) gs_nil) (gs_one (gs_for (it := itR1 (xCall opLen (aCons (xVar 1) (aNil)))) (b := b_need_layers_0) (t := .nm 2) hp rfl (gi_r1 rfl B.range (ge_callB call_len cd_len rfl B.len PySem.boot_len (ga_cons (ge_var (pv 1)) ga_nil))) (pg_name (i := 2) nd rfl (by first | exact .inl rfl | exact .inr rfl)) (gs_one (gs_if (gt_not (gt_val (gc_P D.is_layer hr (by decide) tk rfl (an_cons (an_cons an_nil)) (ga_cons (ge_ix ix_seq od_ix (ge_var (pv 1)) (ge_var (pv 2)) (fun _ _ => rfl)) (ga_cons (ge_var (pv 0)) ga_nil))))) (gs_one gs_never) gs_nil)))))
abbrev s_need_net : Stmt := top 15
theorem sc_need_net : FnScope ["lines", "net"] ["lines", "net"] (defScope s_need_net) := ⟨rfl, rfl, rfl, by decide +kernel, rfl, by decide +kernel, by decide +kernel⟩
structure D_need_net (P : Program) (w : World) (K : PySem.W.Frag) (mg : Str → Option Value) (base : Heap) (ct : Ct) : Prop where
  need_lines : Dp' P w K mg base 4 "need_lines" ["lines"] (spP K ct 1 f_need_lines)
  need_layers : Dp' P w K mg base 6 "need_layers" ["lines", "net"] (spP K ct 2 f_need_layers)
  u_ : True
def c_need_net : En → M Fl := sSeq (sDrop (xCallP f_need_lines (aCons (xVar 0) (aNil)))) (sDrop (xCallP f_need_layers (aCons (xVar 0) (aCons (xVar 1) (aNil)))))
def f_need_net : List D → Rp := runP c_need_net 2
theorem F_need_net (a0 a1 : D) : f_need_net [a0, a1] = kP (c_need_net [some a0, some a1] []) := rfl
theorem d_need_net (F : ∃ fa fd, mg "need_net" = some (.ref fa) ∧ FunG K "need_net" s_need_net fa fd) (B : Bt K mg ct) (D : D_need_net P w K mg base ct) : Dp' P w K mg base 7 "need_net" ["lines", "net"] (spP K ct 2 f_need_net) := by
  obtain ⟨fa, fd, hm, F⟩ := F
  have nd := sc_need_net.nd
  refine ⟨fa, fd, hm, F.kp, F.bindsN (fun _ _ _ _ _ _ us hl => match us, hl with | [_, _], _ => rfl), def_P (k := 6) F sc_need_net rfl fun cdv A outer s H E hr => ?_⟩
  have tk := takes_of (X := cxG P w K mg base ["lines", "net"] "need_net" s_need_net fa cdv A outer s H E) rfl rfl rfl rfl
  exact (gs_cons (gs_drop (gc_P D.need_lines hr (by decide) tk rfl (an_cons an_nil) (ga_cons (ge_var (pv 0)) ga_nil))) (gs_one (gs_drop (gc_P D.need_layers hr (by decide) tk rfl (an_cons (an_cons an_nil)) (ga_cons (ge_var (pv 0)) (ga_cons (ge_var (pv 1)) ga_nil))))))
abbrev s_joints : Stmt := top 16
theorem sc_joints : FnScope ["lines", "net", "layer"] ["lines", "net"] (defScope s_joints) := ⟨rfl, rfl, rfl, by decide +kernel, rfl, by decide +kernel, by decide +kernel⟩
structure D_joints (P : Program) (w : World) (K : PySem.W.Frag) (mg : Str → Option Value) (base : Heap) (ct : Ct) : Prop where
  need_net : Dp' P w K mg base 7 "need_net" ["lines", "net"] (spP K ct 2 f_need_net)
  u_ : True
def e_joints_0 : En → M D := xCall opLen (aCons (xVar 2) (aNil))
def m_joints_0 : En → M D := xLcN false (itSeq (xVar 1)) [2] (.nm 2) (bYes) e_joints_0
def c_joints : En → M Fl := sSeq (sDrop (xCallP f_need_net (aCons (xVar 0) (aCons (xVar 1) (aNil))))) (sRet (xCall opSum (aCons (m_joints_0) (aNil))))
def f_joints : List D → Rp := runP c_joints 3
theorem F_joints (a0 a1 : D) : f_joints [a0, a1] = kP (c_joints [some a0, some a1, none] []) := rfl
theorem d_joints (F : ∃ fa fd, mg "joints" = some (.ref fa) ∧ FunG K "joints" s_joints fa fd) (B : Bt K mg ct) (D : D_joints P w K mg base ct) : Dp' P w K mg base 8 "joints" ["lines", "net"] (spP K ct 2 f_joints) := by
  obtain ⟨fa, fd, hm, F⟩ := F
  have nd := sc_joints.nd
  refine ⟨fa, fd, hm, F.kp, F.bindsN (fun _ _ _ _ _ _ us hl => match us, hl with | [_, _], _ => rfl), def_P (k := 7) F sc_joints rfl fun cdv A outer s H E hr => ?_⟩
  have tk := takes_of (X := cxG P w K mg base ["lines", "net", "layer"] "joints" s_joints fa cdv A outer s H E) rfl rfl rfl rfl
  exact (gs_cons (gs_drop (gc_P D.need_net hr (by decide) tk rfl (an_cons (an_cons an_nil)) (ga_cons (ge_var (pv 0)) (ga_cons (ge_var (pv 1)) ga_nil)))) (gs_one (gs_ret (ge_callB (cr_sum rfl) cd_sum rfl B.sum (by decide +kernel) (ga_cons (ge_lc false rfl nd (own := [("layer", 2)]) (t := .nm 2) (gi_seq (ge_var (pv 1))) (blkOk_by (own := [("layer", 2)]) (by kernel_rfl)) (by decide) (fun _ _ _ _ _ => (pg_name (i := 2) nd rfl (by first | exact .inl rfl | exact .inr rfl))) (fun _ _ _ _ _ => gts_nil) (fun _ _ _ _ _ => (ge_callB call_len cd_len rfl B.len PySem.boot_len (ga_cons (ge_var (pv 2)) ga_nil)))) ga_nil)))))
abbrev s_moved_up : Stmt := top 18
theorem sc_moved_up : FnScope ["net", "by", "layer", "low", "high"] ["net", "by"] (defScope s_moved_up) := ⟨rfl, rfl, rfl, by decide +kernel, rfl, by decide +kernel, by decide +kernel⟩
structure D_moved_up (P : Program) (w : World) (K : PySem.W.Frag) (mg : Str → Option Value) (base : Heap) (ct : Ct) : Prop where
  u_ : True
def e_moved_up_0 : En → M D := xTup (aCons (xBin (opAdd false) (xVar 3) (xVar 1)) (aCons (xBin (opAdd false) (xVar 4) (xVar 1)) (aNil)))
def m_moved_up_0 : En → M D := xLcN false (itSeq (xVar 2)) [3, 4] (.tp [3, 4]) (bYes) e_moved_up_0
def e_moved_up_1 : En → M D := m_moved_up_0
def m_moved_up_1 : En → M D := xLcN false (itSeq (xVar 0)) [2] (.nm 2) (bYes) e_moved_up_1
def c_moved_up : En → M Fl := sRet (m_moved_up_1)
def f_moved_up : List D → Rp := runP c_moved_up 5
theorem F_moved_up (a0 a1 : D) : f_moved_up [a0, a1] = kP (c_moved_up [some a0, some a1, none, none, none] []) := rfl
theorem d_moved_up (F : ∃ fa fd, mg "moved_up" = some (.ref fa) ∧ FunG K "moved_up" s_moved_up fa fd) (B : Bt K mg ct) (D : D_moved_up P w K mg base ct) : Dp' P w K mg base 2 "moved_up" ["net", "by"] (spP K ct 2 f_moved_up) := by
  obtain ⟨fa, fd, hm, F⟩ := F
  have nd := sc_moved_up.nd
  refine ⟨fa, fd, hm, F.kp, F.bindsN (fun _ _ _ _ _ _ us hl => match us, hl with | [_, _], _ => rfl), def_P (k := 1) F sc_moved_up rfl fun cdv A outer s H E hr => ?_⟩
  have tk := takes_of (X := cxG P w K mg base ["net", "by", "layer", "low", "high"] "moved_up" s_moved_up fa cdv A outer s H E) rfl rfl rfl rfl
  exact (gs_one (gs_ret (ge_lc false rfl nd (own := [("layer", 2)]) (t := .nm 2) (gi_seq (ge_var (pv 0))) (blkOk_by (own := [("layer", 2)]) (by kernel_rfl)) (by decide) (fun _ _ _ _ _ => (pg_name (i := 2) nd rfl (by first | exact .inl rfl | exact .inr rfl))) (fun _ _ _ _ _ => gts_nil) (fun _ _ _ _ _ => (ge_lc false rfl nd (own := [("low", 3), ("high", 4)]) (t := .tp [3, 4]) (gi_seq (ge_var (pv 2))) (blkOk_by (own := [("low", 3), ("high", 4)]) (by kernel_rfl)) (by decide) (fun _ _ _ _ _ => (pg_tup rfl (pgs_cons (pg_name (i := 3) nd rfl (by first | exact .inl rfl | exact .inr rfl)) (pgs_cons (pg_name (i := 4) nd rfl (by first | exact .inl rfl | exact .inr rfl)) pgs_nil)))) (fun _ _ _ _ _ => gts_nil) (fun _ _ _ _ _ => (ge_tup (ga_cons (ge_op op_addA (od_add false) (ge_var (pv 3)) (ge_var (pv 1))) (ga_cons (ge_op op_addA (od_add false) (ge_var (pv 4)) (ge_var (pv 1))) ga_nil)))))))))
abbrev s_side_by_side : Stmt := top 19
theorem sc_side_by_side : FnScope ["one", "other", "found", "at", "layer", "net"] ["one", "other"] (defScope s_side_by_side) := ⟨rfl, rfl, rfl, by decide +kernel, rfl, by decide +kernel, by decide +kernel⟩
structure D_side_by_side (P : Program) (w : World) (K : PySem.W.Frag) (mg : Str → Option Value) (base : Heap) (ct : Ct) : Prop where
  u_ : True
def b_side_by_side_0 : En → M Fl := sIf (bVal (xBin opLt (xVar 3) (xCall opLen (aCons (xVar 5) (aNil))))) (sAsg (xBin (opAdd false) (xVar 4) (xBin opIx (xVar 5) (xVar 3))) (.nm 4)) (sSkip)
def l_side_by_side_0 : En → M Fl := sFor (itTup (xTup (aCons (xVar 0) (aCons (xVar 1) (aNil))))) (.nm 5) b_side_by_side_0
def b_side_by_side_1 : En → M Fl := sSeq (sAsg (xLst false (aNil)) (.nm 4)) (sSeq (l_side_by_side_0) (sDrop (xApp (xVar 2) (xVar 4))))
def l_side_by_side_1 : En → M Fl := sFor (itR1 (xCall opMax2 (aCons (xCall opLen (aCons (xVar 0) (aNil))) (aCons (xCall opLen (aCons (xVar 1) (aNil))) (aNil))))) (.nm 3) b_side_by_side_1
def c_side_by_side : En → M Fl := sSeq (sAsg (xLst true (aNil)) (.nm 2)) (sSeq (l_side_by_side_1) (sRet (xVar 2)))
def f_side_by_side : List D → Rp := runP c_side_by_side 6
theorem F_side_by_side (a0 a1 : D) : f_side_by_side [a0, a1] = kP (c_side_by_side [some a0, some a1, none, none, none, none] []) := rfl
theorem d_side_by_side (F : ∃ fa fd, mg "side_by_side" = some (.ref fa) ∧ FunG K "side_by_side" s_side_by_side fa fd) (B : Bt K mg ct) (D : D_side_by_side P w K mg base ct) : Dp' P w K mg base 2 "side_by_side" ["one", "other"] (spP K ct 2 f_side_by_side) := by
  obtain ⟨fa, fd, hm, F⟩ := F
  have nd := sc_side_by_side.nd
  refine ⟨fa, fd, hm, F.kp, F.bindsN (fun _ _ _ _ _ _ us hl => match us, hl with | [_, _], _ => rfl), def_P (k := 1) F sc_side_by_side rfl fun cdv A outer s H E hr => ?_⟩
  have tk := takes_of (X := cxG P w K mg base ["one", "other", "found", "at", "layer", "net"] "side_by_side" s_side_by_side fa cdv A outer s H E) rfl rfl rfl rfl
  have hp : PassesOwn (model P w) _ _ (cxG P w K mg base ["one", "other", "found", "at", "layer", "net"] "side_by_side" s_side_by_side fa cdv A outer s H E).xe := passes_of rfl
  exact (gs_cons (gs_asg (t := .nm 2) (ps_set nd rfl (by first | exact .inl rfl | exact .inr rfl) (ge_lst true ga_nil))) (gs_cons (gs_for (it := itR1 (xCall opMax2 (aCons (xCall opLen (aCons (xVar 0) (aNil))) (aCons (xCall opLen (aCons (xVar 1) (aNil))) (aNil))))) (b := b_side_by_side_1) (t := .nm 3) hp rfl (gi_r1 rfl B.range (ge_callB (call_max2 rfl) cd_max2 rfl B.max (by decide +kernel) (ga_cons (ge_callB call_len cd_len rfl B.len PySem.boot_len (ga_cons (ge_var (pv 0)) ga_nil)) (ga_cons (ge_callB call_len cd_len rfl B.len PySem.boot_len (ga_cons (ge_var (pv 1)) ga_nil)) ga_nil)))) (pg_name (i := 3) nd rfl (by first | exact .inl rfl | exact .inr rfl)) (gs_cons (gs_asg (t := .nm 4) (ps_set nd rfl (by first | exact .inl rfl | exact .inr rfl) (ge_lst false ga_nil))) (gs_cons (gs_for (it := itTup (xTup (aCons (xVar 0) (aCons (xVar 1) (aNil))))) (b := b_side_by_side_0) (t := .nm 5) hp rfl (gi_tup (ge_tup (ga_cons (ge_var (pv 0)) (ga_cons (ge_var (pv 1)) ga_nil)))) (pg_name (i := 5) nd rfl (by first | exact .inl rfl | exact .inr rfl)) (gs_one (gs_if (gt_cmp op_lt od_lt (ge_var (pv 3)) (ge_callB call_len cd_len rfl B.len PySem.boot_len (ga_cons (ge_var (pv 5)) ga_nil)) (nomark _)) (gs_one (gs_asg (t := .nm 4) (ps_set nd rfl (by first | exact .inl rfl | exact .inr rfl) (ge_op op_addA (od_add false) (ge_var (pv 4)) (ge_ix ix_seq od_ix (ge_var (pv 5)) (ge_var (pv 3)) (fun _ _ => rfl)))))) gs_nil))) (gs_one (gs_drop (ge_app (ge_var (pv 2)) (ge_var (pv 4)))))))) (gs_one (gs_ret (ge_var (pv 2))))))
abbrev s_put_behind : Stmt := top 20
theorem sc_put_behind : FnScope ["one", "first", "other", "many", "last", "line"] ["one", "first", "other", "many"] (defScope s_put_behind) := ⟨rfl, rfl, rfl, by decide +kernel, rfl, by decide +kernel, by decide +kernel⟩
structure D_put_behind (P : Program) (w : World) (K : PySem.W.Frag) (mg : Str → Option Value) (base : Heap) (ct : Ct) : Prop where
  moved_up : Dp' P w K mg base 2 "moved_up" ["net", "by"] (spP K ct 2 f_moved_up)
  side_by_side : Dp' P w K mg base 2 "side_by_side" ["one", "other"] (spP K ct 2 f_side_by_side)
  u_ : True
def e_put_behind_0 : En → M D := xTup (aCons (xBin opSub (xVar 1) (xC (.int 1))) (aCons (xBin (opAdd false) (xVar 1) (xVar 5)) (aNil)))
def m_put_behind_0 : En → M D := xLcN false (itR1 (xVar 3)) [5] (.nm 5) (bYes) e_put_behind_0
def c_put_behind : En → M Fl := sSeq (sAsg (m_put_behind_0) (.nm 4)) (sRet (xBin (opAdd false) (xCallP f_side_by_side (aCons (xVar 0) (aCons (xCallP f_moved_up (aCons (xVar 2) (aCons (xVar 1) (aNil)))) (aNil)))) (xLst false (aCons (xVar 4) (aNil)))))
def f_put_behind : List D → Rp := runP c_put_behind 6
theorem F_put_behind (a0 a1 a2 a3 : D) : f_put_behind [a0, a1, a2, a3] = kP (c_put_behind [some a0, some a1, some a2, some a3, none, none] []) := rfl
theorem d_put_behind (F : ∃ fa fd, mg "put_behind" = some (.ref fa) ∧ FunG K "put_behind" s_put_behind fa fd) (B : Bt K mg ct) (D : D_put_behind P w K mg base ct) : Dp' P w K mg base 3 "put_behind" ["one", "first", "other", "many"] (spP K ct 4 f_put_behind) := by
  obtain ⟨fa, fd, hm, F⟩ := F
  have nd := sc_put_behind.nd
  refine ⟨fa, fd, hm, F.kp, F.bindsN (fun _ _ _ _ _ _ us hl => match us, hl with | [_, _, _, _], _ => rfl), def_P (k := 2) F sc_put_behind rfl fun cdv A outer s H E hr => ?_⟩
  have tk := takes_of (X := cxG P w K mg base ["one", "first", "other", "many", "last", "line"] "put_behind" s_put_behind fa cdv A outer s H E) rfl rfl rfl rfl
  exact (gs_cons (gs_lc (own := [("line", 5)]) (t := .nm 5) (i := 4) (c := false) (by decide) (ps_setLc rfl nd rfl rfl (sw_true rfl rfl rfl (by decide +kernel)) (own := [("line", 5)]) (gi_r1 rfl B.range (ge_var (pv 3))) (blkOk_by (own := [("line", 5)]) (by kernel_rfl)) (fun _ _ _ _ _ => (pg_name (i := 5) nd rfl (by first | exact .inl rfl | exact .inr rfl))) (fun _ _ _ _ _ => gts_nil) (fun _ _ _ _ _ => (ge_tup (ga_cons (ge_op op_sub od_sub (ge_var (pv 1)) ge_int) (ga_cons (ge_op op_addA (od_add false) (ge_var (pv 1)) (ge_var (pv 5))) ga_nil)))))) (gs_one (gs_ret (ge_op op_addA (od_add false) (gc_P D.side_by_side hr (by decide) tk rfl (an_cons (an_cons an_nil)) (ga_cons (ge_var (pv 0)) (ga_cons (gc_P D.moved_up hr (by decide) tk rfl (an_cons (an_cons an_nil)) (ga_cons (ge_var (pv 2)) (ga_cons (ge_var (pv 1)) ga_nil))) ga_nil))) (ge_lst false (ga_cons (ge_var (pv 4)) ga_nil))))))
abbrev s_pairs_around : Stmt := top 21
theorem sc_pairs_around : FnScope ["lines", "net", "first", "inner", "last", "line", "layer", "low", "high"] ["lines", "net"] (defScope s_pairs_around) := ⟨rfl, rfl, rfl, by decide +kernel, rfl, by decide +kernel, by decide +kernel⟩
structure D_pairs_around (P : Program) (w : World) (K : PySem.W.Frag) (mg : Str → Option Value) (base : Heap) (ct : Ct) : Prop where
  u_ : True
def e_pairs_around_0 : En → M D := xTup (aCons (xVar 5) (aCons (xBin (opAdd false) (xVar 5) (xC (.int 1))) (aNil)))
def m_pairs_around_0 : En → M D := xLcN false (itR3 (xC (.int 0)) (xBin opSub (xVar 0) (xC (.int 1))) (xC (.int 2))) [5] (.nm 5) (bYes) e_pairs_around_0
def e_pairs_around_1 : En → M D := xTup (aCons (xBin (opAdd false) (xBin (opMulX false) (xC (.int 2)) (xVar 7)) (xC (.int 1))) (aCons (xBin (opAdd false) (xBin (opMulX false) (xC (.int 2)) (xVar 8)) (xC (.int 1))) (aNil)))
def m_pairs_around_1 : En → M D := xLcN false (itSeq (xVar 6)) [7, 8] (.tp [7, 8]) (bYes) e_pairs_around_1
def e_pairs_around_2 : En → M D := m_pairs_around_1
def m_pairs_around_2 : En → M D := xLcN false (itSeq (xVar 1)) [6] (.nm 6) (bYes) e_pairs_around_2
def e_pairs_around_3 : En → M D := xTup (aCons (xVar 5) (aCons (xBin (opAdd false) (xVar 5) (xC (.int 1))) (aNil)))
def m_pairs_around_3 : En → M D := xLcN false (itR3 (xC (.int 1)) (xBin opSub (xVar 0) (xC (.int 1))) (xC (.int 2))) [5] (.nm 5) (bYes) e_pairs_around_3
def c_pairs_around : En → M Fl := sSeq (sAsg (m_pairs_around_0) (.nm 2)) (sSeq (sAsg (m_pairs_around_2) (.nm 3)) (sSeq (sAsg (m_pairs_around_3) (.nm 4)) (sSeq (sIf (bVal (xBin (opEq true) (xVar 4) (xLst false (aNil)))) (sRet (xBin (opAdd false) (xLst false (aCons (xVar 2) (aNil))) (xVar 3))) (sSkip)) (sRet (xBin (opAdd false) (xBin (opAdd false) (xLst false (aCons (xVar 2) (aNil))) (xVar 3)) (xLst false (aCons (xVar 4) (aNil))))))))
def f_pairs_around : List D → Rp := runP c_pairs_around 9
theorem F_pairs_around (a0 a1 : D) : f_pairs_around [a0, a1] = kP (c_pairs_around [some a0, some a1, none, none, none, none, none, none, none] []) := rfl
theorem d_pairs_around (F : ∃ fa fd, mg "pairs_around" = some (.ref fa) ∧ FunG K "pairs_around" s_pairs_around fa fd) (B : Bt K mg ct) (D : D_pairs_around P w K mg base ct) : Dp' P w K mg base 2 "pairs_around" ["lines", "net"] (spP K ct 2 f_pairs_around) := by
  obtain ⟨fa, fd, hm, F⟩ := F
  have nd := sc_pairs_around.nd
  refine ⟨fa, fd, hm, F.kp, F.bindsN (fun _ _ _ _ _ _ us hl => match us, hl with | [_, _], _ => rfl), def_P (k := 1) F sc_pairs_around rfl fun cdv A outer s H E hr => ?_⟩
  have tk := takes_of (X := cxG P w K mg base ["lines", "net", "first", "inner", "last", "line", "layer", "low", "high"] "pairs_around" s_pairs_around fa cdv A outer s H E) rfl rfl rfl rfl
  exact (gs_cons (gs_lc (own := [("line", 5)]) (t := .nm 5) (i := 2) (c := false) (by decide) (ps_setLc rfl nd rfl rfl (sw_true rfl rfl rfl (by decide +kernel)) (own := [("line", 5)]) (gi_r3 rfl B.range ge_int (ge_op op_sub od_sub (ge_var (pv 0)) ge_int) ge_int) (blkOk_by (own := [("line", 5)]) (by kernel_rfl)) (fun _ _ _ _ _ => (pg_name (i := 5) nd rfl (by first | exact .inl rfl | exact .inr rfl))) (fun _ _ _ _ _ => gts_nil) (fun _ _ _ _ _ => (ge_tup (ga_cons (ge_var (pv 5)) (ga_cons (ge_op op_addA (od_add false) (ge_var (pv 5)) ge_int) ga_nil)))))) (gs_cons (gs_lc (own := [("layer", 6)]) (t := .nm 6) (i := 3) (c := false) (by decide) (ps_setLc rfl nd rfl rfl (sw_true rfl rfl rfl (by decide +kernel)) (own := [("layer", 6)]) (gi_seq (ge_var (pv 1))) (blkOk_by (own := [("layer", 6)]) (by kernel_rfl)) (fun _ _ _ _ _ => (pg_name (i := 6) nd rfl (by first | exact .inl rfl | exact .inr rfl))) (fun _ _ _ _ _ => gts_nil) (fun _ _ _ _ _ => (ge_lc false rfl nd (own := [("low", 7), ("high", 8)]) (t := .tp [7, 8]) (gi_seq (ge_var (pv 6))) (blkOk_by (own := [("low", 7), ("high", 8)]) (by kernel_rfl)) (by decide) (fun _ _ _ _ _ => (pg_tup rfl (pgs_cons (pg_name (i := 7) nd rfl (by first | exact .inl rfl | exact .inr rfl)) (pgs_cons (pg_name (i := 8) nd rfl (by first | exact .inl rfl | exact .inr rfl)) pgs_nil)))) (fun _ _ _ _ _ => gts_nil) (fun _ _ _ _ _ => (ge_tup (ga_cons (ge_op op_addA (od_add false) (ge_op op_mulX (od_mulX false) ge_int (ge_var (pv 7))) ge_int) (ga_cons (ge_op op_addA (od_add false) (ge_op op_mulX (od_mulX false) ge_int (ge_var (pv 8))) ge_int) ga_nil)))))))) (gs_cons (gs_lc (own := [("line", 5)]) (t := .nm 5) (i := 4) (c := false) (by decide) (ps_setLc rfl nd rfl rfl (sw_true rfl rfl rfl (by decide +kernel)) (own := [("line", 5)]) (gi_r3 rfl B.range ge_int (ge_op op_sub od_sub (ge_var (pv 0)) ge_int) ge_int) (blkOk_by (own := [("line", 5)]) (by kernel_rfl)) (fun _ _ _ _ _ => (pg_name (i := 5) nd rfl (by first | exact .inl rfl | exact .inr rfl))) (fun _ _ _ _ _ => gts_nil) (fun _ _ _ _ _ => (ge_tup (ga_cons (ge_var (pv 5)) (ga_cons (ge_op op_addA (od_add false) (ge_var (pv 5)) ge_int) ga_nil)))))) (gs_cons (gs_if (gt_cmp (op_eqD hr.units) od_eq (ge_var (pv 4)) (ge_lst false ga_nil) (nomark _)) (gs_one (gs_ret (ge_op op_addA (od_add false) (ge_lst false (ga_cons (ge_var (pv 2)) ga_nil)) (ge_var (pv 3))))) gs_nil) (gs_one (gs_ret (ge_op op_addA (od_add false) (ge_op op_addA (od_add false) (ge_lst false (ga_cons (ge_var (pv 2)) ga_nil)) (ge_var (pv 3))) (ge_lst false (ga_cons (ge_var (pv 4)) ga_nil)))))))))
abbrev s_one_by_one : Stmt := top 22
theorem sc_one_by_one : FnScope ["lines", "line"] ["lines"] (defScope s_one_by_one) := ⟨rfl, rfl, rfl, by decide +kernel, rfl, by decide +kernel, by decide +kernel⟩
structure D_one_by_one (P : Program) (w : World) (K : PySem.W.Frag) (mg : Str → Option Value) (base : Heap) (ct : Ct) : Prop where
  need_lines : Dp' P w K mg base 4 "need_lines" ["lines"] (spP K ct 1 f_need_lines)
  u_ : True
def e_one_by_one_0 : En → M D := xLst false (aCons (xTup (aCons (xVar 1) (aCons (xBin (opAdd false) (xVar 1) (xC (.int 1))) (aNil)))) (aNil))
def m_one_by_one_0 : En → M D := xLcN false (itR1 (xBin opSub (xVar 0) (xC (.int 1)))) [1] (.nm 1) (bYes) e_one_by_one_0
def c_one_by_one : En → M Fl := sSeq (sDrop (xCallP f_need_lines (aCons (xVar 0) (aNil)))) (sRet (m_one_by_one_0))
def f_one_by_one : List D → Rp := runP c_one_by_one 2
theorem F_one_by_one (a0 : D) : f_one_by_one [a0] = kP (c_one_by_one [some a0, none] []) := rfl
theorem d_one_by_one (F : ∃ fa fd, mg "one_by_one" = some (.ref fa) ∧ FunG K "one_by_one" s_one_by_one fa fd) (B : Bt K mg ct) (D : D_one_by_one P w K mg base ct) : Dp' P w K mg base 5 "one_by_one" ["lines"] (spP K ct 1 f_one_by_one) := by
  obtain ⟨fa, fd, hm, F⟩ := F
  have nd := sc_one_by_one.nd
  refine ⟨fa, fd, hm, F.kp, F.bindsN (fun _ _ _ _ _ _ us hl => match us, hl with | [_], _ => rfl), def_P (k := 4) F sc_one_by_one rfl fun cdv A outer s H E hr => ?_⟩
  have tk := takes_of (X := cxG P w K mg base ["lines", "line"] "one_by_one" s_one_by_one fa cdv A outer s H E) rfl rfl rfl rfl
  exact (gs_cons (gs_drop (gc_P D.need_lines hr (by decide) tk rfl (an_cons an_nil) (ga_cons (ge_var (pv 0)) ga_nil))) (gs_one (gs_ret (ge_lc false rfl nd (own := [("line", 1)]) (t := .nm 1) (gi_r1 rfl B.range (ge_op op_sub od_sub (ge_var (pv 0)) ge_int)) (blkOk_by (own := [("line", 1)]) (by kernel_rfl)) (by decide) (fun _ _ _ _ _ => (pg_name (i := 1) nd rfl (by first | exact .inl rfl | exact .inr rfl))) (fun _ _ _ _ _ => gts_nil) (fun _ _ _ _ _ => (ge_lst false (ga_cons (ge_tup (ga_cons (ge_var (pv 1)) (ga_cons (ge_op op_addA (od_add false) (ge_var (pv 1)) ge_int) ga_nil))) ga_nil)))))))
abbrev s_doubled : Stmt := top 23
theorem sc_doubled : FnScope ["lines", "found", "far", "line"] ["lines"] (defScope s_doubled) := ⟨rfl, rfl, rfl, by decide +kernel, rfl, by decide +kernel, by decide +kernel⟩
structure D_doubled (P : Program) (w : World) (K : PySem.W.Frag) (mg : Str → Option Value) (base : Heap) (ct : Ct) : Prop where
  need_lines : Dp' P w K mg base 4 "need_lines" ["lines"] (spP K ct 1 f_need_lines)
  u_ : True
def e_doubled_0 : En → M D := xTup (aCons (xBin opSub (xVar 3) (xVar 2)) (aCons (xVar 3) (aNil)))
def m_doubled_0 : En → M D := xLcN false (itR2 (xVar 2) (xVar 0)) [3] (.nm 3) (bYes) e_doubled_0
def t_doubled_0 : En → M Bool := bVal (xBin opLt (xVar 2) (xVar 0))
def b_doubled_0 : En → M Fl := sSeq (sDrop (xApp (xVar 1) (m_doubled_0))) (sAsg (xBin (opMulX false) (xC (.int 2)) (xVar 2)) (.nm 2))
def c_doubled : En → M Fl := sSeq (sDrop (xCallP f_need_lines (aCons (xVar 0) (aNil)))) (sSeq (sAsg (xLst true (aNil)) (.nm 1)) (sSeq (sAsg (xC (.int 1)) (.nm 2)) (sSeq (sWhile t_doubled_0 b_doubled_0 8) (sRet (xVar 1)))))
def f_doubled : List D → Rp := runP c_doubled 4
theorem F_doubled (a0 : D) : f_doubled [a0] = kP (c_doubled [some a0, none, none, none] []) := rfl
theorem d_doubled (F : ∃ fa fd, mg "doubled" = some (.ref fa) ∧ FunG K "doubled" s_doubled fa fd) (B : Bt K mg ct) (D : D_doubled P w K mg base ct) : Dp' P w K mg base 5 "doubled" ["lines"] (spP K ct 1 f_doubled) := by
  obtain ⟨fa, fd, hm, F⟩ := F
  have nd := sc_doubled.nd
  refine ⟨fa, fd, hm, F.kp, F.bindsN (fun _ _ _ _ _ _ us hl => match us, hl with | [_], _ => rfl), def_P (k := 4) F sc_doubled rfl fun cdv A outer s H E hr => ?_⟩
  have tk := takes_of (X := cxG P w K mg base ["lines", "found", "far", "line"] "doubled" s_doubled fa cdv A outer s H E) rfl rfl rfl rfl
  have hp : PassesOwn (model P w) _ _ (cxG P w K mg base ["lines", "found", "far", "line"] "doubled" s_doubled fa cdv A outer s H E).xe := passes_of rfl
  exact (gs_cons (gs_drop (gc_P D.need_lines hr (by decide) tk rfl (an_cons an_nil) (ga_cons (ge_var (pv 0)) ga_nil))) (gs_cons (gs_asg (t := .nm 1) (ps_set nd rfl (by first | exact .inl rfl | exact .inr rfl) (ge_lst true ga_nil))) (gs_cons (gs_asg (t := .nm 2) (ps_set nd rfl (by first | exact .inl rfl | exact .inr rfl) ge_int)) (gs_cons (gs_while 8 hp (gt_cmp op_lt od_lt (ge_var (pv 2)) (ge_var (pv 0)) (nomark _)) (gs_cons (gs_drop (ge_app (ge_var (pv 1)) (ge_lc false rfl nd (own := [("line", 3)]) (t := .nm 3) (gi_r2 rfl B.range (ge_var (pv 2)) (ge_var (pv 0))) (blkOk_by (own := [("line", 3)]) (by kernel_rfl)) (by decide) (fun _ _ _ _ _ => (pg_name (i := 3) nd rfl (by first | exact .inl rfl | exact .inr rfl))) (fun _ _ _ _ _ => gts_nil) (fun _ _ _ _ _ => (ge_tup (ga_cons (ge_op op_sub od_sub (ge_var (pv 3)) (ge_var (pv 2))) (ga_cons (ge_var (pv 3)) ga_nil))))))) (gs_one (gs_asg (t := .nm 2) (ps_set nd rfl (by first | exact .inl rfl | exact .inr rfl) (ge_op op_mulX (od_mulX false) ge_int (ge_var (pv 2)))))))) (gs_one (gs_ret (ge_var (pv 1))))))))
abbrev s_halves_net : Stmt := top 24
theorem sc_halves_net : FnScope ["lines", "first"] ["lines"] (defScope s_halves_net) := ⟨rfl, rfl, rfl, by decide +kernel, rfl, by decide +kernel, by decide +kernel⟩
structure D_halves_net (P : Program) (w : World) (K : PySem.W.Frag) (mg : Str → Option Value) (base : Heap) (ct : Ct) : Prop where
  put_behind : Dp' P w K mg base 3 "put_behind" ["one", "first", "other", "many"] (spP K ct 4 f_put_behind)
  u_ : True
def c_halves_net (r : List D → Rp) : En → M Fl := sSeq (sIf (bVal (xBin (opEq true) (xVar 0) (xC (.int 1)))) (sRet (xLst false (aNil))) (sSkip)) (sSeq (sAsg (xBin opSub (xVar 0) (xBin opDiv (xVar 0) (xC (.int 2)))) (.nm 1)) (sRet (xCallP f_put_behind (aCons (xCallP r (aCons (xVar 1) (aNil))) (aCons (xVar 1) (aCons (xCallP r (aCons (xBin opSub (xVar 0) (xVar 1)) (aNil))) (aCons (xBin opSub (xVar 0) (xVar 1)) (aNil))))))))
def g_halves_net : Nat → List D → Rp
  | 0 => fun _ => .no
  | n + 1 => runP (c_halves_net (g_halves_net n)) 2
def f_halves_net : List D → Rp := g_halves_net 8
theorem d_halves_net (F : ∃ fa fd, mg "halves_net" = some (.ref fa) ∧ FunG K "halves_net" s_halves_net fa fd) (B : Bt K mg ct) (D : D_halves_net P w K mg base ct) : Dp' P w K mg base 12 "halves_net" ["lines"] (spP K ct 1 f_halves_net) := by
  obtain ⟨fa, fd, hm, F⟩ := F
  have nd := sc_halves_net.nd
  have all : ∀ m, Dp' P w K mg base (4 + m) "halves_net" ["lines"] (spP K ct 1 (g_halves_net m)) := fun m => by
    induction m with
    | zero => exact ⟨fa, fd, hm, F.kp, F.bindsN (fun _ _ _ _ _ _ us hl => match us, hl with | [_], _ => rfl), fn_no rfl⟩
    | succ m IH =>
      refine ⟨fa, fd, hm, F.kp, F.bindsN (fun _ _ _ _ _ _ us hl => match us, hl with | [_], _ => rfl), def_P (k := 4 + m) F sc_halves_net rfl fun cdv A outer s H E hr => ?_⟩
      have tk := takes_of (X := cxG P w K mg base ["lines", "first"] "halves_net" s_halves_net fa cdv A outer s H E) rfl rfl rfl rfl
      exact (gs_cons (gs_if (gt_cmp (op_eqD hr.units) od_eq (ge_var (pv 0)) ge_int (nomark _)) (gs_one (gs_ret (ge_lst false ga_nil))) gs_nil) (gs_cons (gs_asg (t := .nm 1) (ps_set nd rfl (by first | exact .inl rfl | exact .inr rfl) (ge_op op_sub od_sub (ge_var (pv 0)) (ge_op op_fdiv od_div (ge_var (pv 0)) ge_int)))) (gs_one (gs_ret (gc_P D.put_behind hr (by omega) tk rfl (an_cons (an_cons (an_cons (an_cons an_nil)))) (ga_cons (gc_P IH hr (by omega) tk rfl (an_cons an_nil) (ga_cons (ge_var (pv 1)) ga_nil)) (ga_cons (ge_var (pv 1)) (ga_cons (gc_P IH hr (by omega) tk rfl (an_cons an_nil) (ga_cons (ge_op op_sub od_sub (ge_var (pv 0)) (ge_var (pv 1))) ga_nil)) (ga_cons (ge_op op_sub od_sub (ge_var (pv 0)) (ge_var (pv 1))) ga_nil)))))))))
  exact all 8
abbrev s_by_halves : Stmt := top 25
theorem sc_by_halves : FnScope ["lines"] ["lines"] (defScope s_by_halves) := ⟨rfl, rfl, rfl, by decide +kernel, rfl, by decide +kernel, by decide +kernel⟩
structure D_by_halves (P : Program) (w : World) (K : PySem.W.Frag) (mg : Str → Option Value) (base : Heap) (ct : Ct) : Prop where
  need_lines : Dp' P w K mg base 4 "need_lines" ["lines"] (spP K ct 1 f_need_lines)
  halves_net : Dp' P w K mg base 12 "halves_net" ["lines"] (spP K ct 1 f_halves_net)
  u_ : True
def c_by_halves : En → M Fl := sSeq (sDrop (xCallP f_need_lines (aCons (xVar 0) (aNil)))) (sRet (xCallP f_halves_net (aCons (xVar 0) (aNil))))
def f_by_halves : List D → Rp := runP c_by_halves 1
theorem F_by_halves (a0 : D) : f_by_halves [a0] = kP (c_by_halves [some a0] []) := rfl
theorem d_by_halves (F : ∃ fa fd, mg "by_halves" = some (.ref fa) ∧ FunG K "by_halves" s_by_halves fa fd) (B : Bt K mg ct) (D : D_by_halves P w K mg base ct) : Dp' P w K mg base 13 "by_halves" ["lines"] (spP K ct 1 f_by_halves) := by
  obtain ⟨fa, fd, hm, F⟩ := F
  have nd := sc_by_halves.nd
  refine ⟨fa, fd, hm, F.kp, F.bindsN (fun _ _ _ _ _ _ us hl => match us, hl with | [_], _ => rfl), def_P (k := 12) F sc_by_halves rfl fun cdv A outer s H E hr => ?_⟩
  have tk := takes_of (X := cxG P w K mg base ["lines"] "by_halves" s_by_halves fa cdv A outer s H E) rfl rfl rfl rfl
  exact (gs_cons (gs_drop (gc_P D.need_lines hr (by decide) tk rfl (an_cons an_nil) (ga_cons (ge_var (pv 0)) ga_nil))) (gs_one (gs_ret (gc_P D.halves_net hr (by decide) tk rfl (an_cons an_nil) (ga_cons (ge_var (pv 0)) ga_nil)))))
abbrev s_pairs_net : Stmt := top 26
theorem sc_pairs_net : FnScope ["lines"] ["lines"] (defScope s_pairs_net) := ⟨rfl, rfl, rfl, by decide +kernel, rfl, by decide +kernel, by decide +kernel⟩
structure D_pairs_net (P : Program) (w : World) (K : PySem.W.Frag) (mg : Str → Option Value) (base : Heap) (ct : Ct) : Prop where
  pairs_around : Dp' P w K mg base 2 "pairs_around" ["lines", "net"] (spP K ct 2 f_pairs_around)
  u_ : True
def c_pairs_net (r : List D → Rp) : En → M Fl := sSeq (sIf (bVal (xBin (opEq true) (xVar 0) (xC (.int 1)))) (sRet (xLst false (aNil))) (sSkip)) (sRet (xCallP f_pairs_around (aCons (xVar 0) (aCons (xCallP r (aCons (xBin opDiv (xVar 0) (xC (.int 2))) (aNil))) (aNil)))))
def g_pairs_net : Nat → List D → Rp
  | 0 => fun _ => .no
  | n + 1 => runP (c_pairs_net (g_pairs_net n)) 1
def f_pairs_net : List D → Rp := g_pairs_net 8
theorem d_pairs_net (F : ∃ fa fd, mg "pairs_net" = some (.ref fa) ∧ FunG K "pairs_net" s_pairs_net fa fd) (B : Bt K mg ct) (D : D_pairs_net P w K mg base ct) : Dp' P w K mg base 11 "pairs_net" ["lines"] (spP K ct 1 f_pairs_net) := by
  obtain ⟨fa, fd, hm, F⟩ := F
  have nd := sc_pairs_net.nd
  have all : ∀ m, Dp' P w K mg base (3 + m) "pairs_net" ["lines"] (spP K ct 1 (g_pairs_net m)) := fun m => by
    induction m with
    | zero => exact ⟨fa, fd, hm, F.kp, F.bindsN (fun _ _ _ _ _ _ us hl => match us, hl with | [_], _ => rfl), fn_no rfl⟩
    | succ m IH =>
      refine ⟨fa, fd, hm, F.kp, F.bindsN (fun _ _ _ _ _ _ us hl => match us, hl with | [_], _ => rfl), def_P (k := 3 + m) F sc_pairs_net rfl fun cdv A outer s H E hr => ?_⟩
      have tk := takes_of (X := cxG P w K mg base ["lines"] "pairs_net" s_pairs_net fa cdv A outer s H E) rfl rfl rfl rfl
      exact (gs_cons (gs_if (gt_cmp (op_eqD hr.units) od_eq (ge_var (pv 0)) ge_int (nomark _)) (gs_one (gs_ret (ge_lst false ga_nil))) gs_nil) (gs_one (gs_ret (gc_P D.pairs_around hr (by omega) tk rfl (an_cons (an_cons an_nil)) (ga_cons (ge_var (pv 0)) (ga_cons (gc_P IH hr (by omega) tk rfl (an_cons an_nil) (ga_cons (ge_op op_fdiv od_div (ge_var (pv 0)) ge_int) ga_nil)) ga_nil))))))
  exact all 8
abbrev s_by_pairs : Stmt := top 27
theorem sc_by_pairs : FnScope ["lines"] ["lines"] (defScope s_by_pairs) := ⟨rfl, rfl, rfl, by decide +kernel, rfl, by decide +kernel, by decide +kernel⟩
structure D_by_pairs (P : Program) (w : World) (K : PySem.W.Frag) (mg : Str → Option Value) (base : Heap) (ct : Ct) : Prop where
  need_lines : Dp' P w K mg base 4 "need_lines" ["lines"] (spP K ct 1 f_need_lines)
  pairs_net : Dp' P w K mg base 11 "pairs_net" ["lines"] (spP K ct 1 f_pairs_net)
  u_ : True
def c_by_pairs : En → M Fl := sSeq (sDrop (xCallP f_need_lines (aCons (xVar 0) (aNil)))) (sRet (xCallP f_pairs_net (aCons (xVar 0) (aNil))))
def f_by_pairs : List D → Rp := runP c_by_pairs 1
theorem F_by_pairs (a0 : D) : f_by_pairs [a0] = kP (c_by_pairs [some a0] []) := rfl
theorem d_by_pairs (F : ∃ fa fd, mg "by_pairs" = some (.ref fa) ∧ FunG K "by_pairs" s_by_pairs fa fd) (B : Bt K mg ct) (D : D_by_pairs P w K mg base ct) : Dp' P w K mg base 12 "by_pairs" ["lines"] (spP K ct 1 f_by_pairs) := by
  obtain ⟨fa, fd, hm, F⟩ := F
  have nd := sc_by_pairs.nd
  refine ⟨fa, fd, hm, F.kp, F.bindsN (fun _ _ _ _ _ _ us hl => match us, hl with | [_], _ => rfl), def_P (k := 11) F sc_by_pairs rfl fun cdv A outer s H E hr => ?_⟩
  have tk := takes_of (X := cxG P w K mg base ["lines"] "by_pairs" s_by_pairs fa cdv A outer s H E) rfl rfl rfl rfl
  exact (gs_cons (gs_drop (gc_P D.need_lines hr (by decide) tk rfl (an_cons an_nil) (ga_cons (ge_var (pv 0)) ga_nil))) (gs_one (gs_ret (gc_P D.pairs_net hr (by decide) tk rfl (an_cons an_nil) (ga_cons (ge_var (pv 0)) ga_nil)))))
abbrev s_beside : Stmt := top 29
theorem sc_beside : FnScope ["lines", "net", "others", "other"] ["lines", "net", "others", "other"] (defScope s_beside) := ⟨rfl, rfl, rfl, by decide +kernel, rfl, by decide +kernel, by decide +kernel⟩
structure D_beside (P : Program) (w : World) (K : PySem.W.Frag) (mg : Str → Option Value) (base : Heap) (ct : Ct) : Prop where
  need_net : Dp' P w K mg base 7 "need_net" ["lines", "net"] (spP K ct 2 f_need_net)
  put_behind : Dp' P w K mg base 3 "put_behind" ["one", "first", "other", "many"] (spP K ct 4 f_put_behind)
  u_ : True
def c_beside : En → M Fl := sSeq (sDrop (xCallP f_need_net (aCons (xVar 0) (aCons (xVar 1) (aNil))))) (sSeq (sDrop (xCallP f_need_net (aCons (xVar 2) (aCons (xVar 3) (aNil))))) (sSeq (sIf (bVal (xBin opGt (xBin (opAdd false) (xVar 0) (xVar 2)) (xC (.int 64)))) (sRaise .lines) (sSkip)) (sSeq (sIf (bVal (xBin opGt (xBin (opAdd false) (xCall opMax2 (aCons (xCall opLen (aCons (xVar 1) (aNil))) (aCons (xCall opLen (aCons (xVar 3) (aNil))) (aNil)))) (xC (.int 1))) (xC (.int 80)))) (sRaise .nonet) (sSkip)) (sRet (xCallP f_put_behind (aCons (xVar 1) (aCons (xVar 0) (aCons (xVar 3) (aCons (xVar 2) (aNil))))))))))
def f_beside : List D → Rp := runP c_beside 4
theorem F_beside (a0 a1 a2 a3 : D) : f_beside [a0, a1, a2, a3] = kP (c_beside [some a0, some a1, some a2, some a3] []) := rfl
theorem d_beside (F : ∃ fa fd, mg "beside" = some (.ref fa) ∧ FunG K "beside" s_beside fa fd) (B : Bt K mg ct) (D : D_beside P w K mg base ct) : Dp' P w K mg base 8 "beside" ["lines", "net", "others", "other"] (spP K ct 4 f_beside) := by
  obtain ⟨fa, fd, hm, F⟩ := F
  have nd := sc_beside.nd
  refine ⟨fa, fd, hm, F.kp, F.bindsN (fun _ _ _ _ _ _ us hl => match us, hl with | [_, _, _, _], _ => rfl), def_P (k := 7) F sc_beside rfl fun cdv A outer s H E hr => ?_⟩
  have tk := takes_of (X := cxG P w K mg base ["lines", "net", "others", "other"] "beside" s_beside fa cdv A outer s H E) rfl rfl rfl rfl
  exact (gs_cons (gs_drop (gc_P D.need_net hr (by decide) tk rfl (an_cons (an_cons an_nil)) (ga_cons (ge_var (pv 0)) (ga_cons (ge_var (pv 1)) ga_nil)))) (gs_cons (gs_drop (gc_P D.need_net hr (by decide) tk rfl (an_cons (an_cons an_nil)) (ga_cons (ge_var (pv 2)) (ga_cons (ge_var (pv 3)) ga_nil)))) (gs_cons (gs_if (gt_cmp op_gt od_gt (ge_op op_addA (od_add false) (ge_var (pv 0)) (ge_var (pv 2))) (ge_gint B.c_MOST_LINES rfl) (nomark _)) (gs_one (gs_raise4 .lines rfl tk B.x_lines.exc B.x_lines.mg B.x_lines.keep (B.x_lines.raises) rfl)) gs_nil) (gs_cons (gs_if (gt_cmp op_gt od_gt (ge_op op_addA (od_add false) (ge_callB (call_max2 rfl) cd_max2 rfl B.max (by decide +kernel) (ga_cons (ge_callB call_len cd_len rfl B.len PySem.boot_len (ga_cons (ge_var (pv 1)) ga_nil)) (ga_cons (ge_callB call_len cd_len rfl B.len PySem.boot_len (ga_cons (ge_var (pv 3)) ga_nil)) ga_nil))) ge_int) (ge_gint B.c_MOST_LAYERS rfl) (nomark _)) (gs_one (gs_raise4 .nonet rfl tk B.x_nonet.exc B.x_nonet.mg B.x_nonet.keep (B.x_nonet.raises) rfl)) gs_nil) (gs_one (gs_ret (gc_P D.put_behind hr (by decide) tk rfl (an_cons (an_cons (an_cons (an_cons an_nil)))) (ga_cons (ge_var (pv 1)) (ga_cons (ge_var (pv 0)) (ga_cons (ge_var (pv 3)) (ga_cons (ge_var (pv 2)) ga_nil)))))))))))
abbrev s_cut : Stmt := top 30
theorem sc_cut : FnScope ["lines", "net", "first", "behind", "found", "layer", "left", "low", "high"] ["lines", "net", "first", "behind"] (defScope s_cut) := ⟨rfl, rfl, rfl, by decide +kernel, rfl, by decide +kernel, by decide +kernel⟩
structure D_cut (P : Program) (w : World) (K : PySem.W.Frag) (mg : Str → Option Value) (base : Heap) (ct : Ct) : Prop where
  need_net : Dp' P w K mg base 7 "need_net" ["lines", "net"] (spP K ct 2 f_need_net)
  is_among : Dp' P w K mg base 3 "is_among" ["thing", "least", "most"] (spP K ct 3 f_is_among)
  u_ : True
def e_cut_0 : En → M D := xTup (aCons (xBin opSub (xVar 7) (xVar 2)) (aCons (xBin opSub (xVar 8) (xVar 2)) (aNil)))
def i_cut_0 : En → M Bool := bAnd (bVal (xBin opLe (xVar 2) (xVar 7))) (bVal (xBin opLt (xVar 8) (xVar 3)))
def m_cut_0 : En → M D := xLcN false (itSeq (xVar 5)) [7, 8] (.tp [7, 8]) (i_cut_0) e_cut_0
def b_cut_0 : En → M Fl := sSeq (sAsg (m_cut_0) (.nm 6)) (sIf (bVal (xBin (opEq false) (xVar 6) (xLst false (aNil)))) (sDrop (xApp (xVar 4) (xVar 6))) (sSkip))
def l_cut_0 : En → M Fl := sFor (itSeq (xVar 1)) (.nm 5) b_cut_0
def c_cut : En → M Fl := sSeq (sDrop (xCallP f_need_net (aCons (xVar 0) (aCons (xVar 1) (aNil))))) (sSeq (sIf (bOr (bNot (bVal (xCallP f_is_among (aCons (xVar 2) (aCons (xC (.int 0)) (aCons (xBin opSub (xVar 0) (xC (.int 1))) (aNil))))))) (bNot (bVal (xCallP f_is_among (aCons (xVar 3) (aCons (xBin (opAdd false) (xVar 2) (xC (.int 1))) (aCons (xVar 0) (aNil)))))))) (sRaise .lines) (sSkip)) (sSeq (sAsg (xLst true (aNil)) (.nm 4)) (sSeq (l_cut_0) (sRet (xVar 4)))))
def f_cut : List D → Rp := runP c_cut 9
theorem F_cut (a0 a1 a2 a3 : D) : f_cut [a0, a1, a2, a3] = kP (c_cut [some a0, some a1, some a2, some a3, none, none, none, none, none] []) := rfl
theorem d_cut (F : ∃ fa fd, mg "cut" = some (.ref fa) ∧ FunG K "cut" s_cut fa fd) (B : Bt K mg ct) (D : D_cut P w K mg base ct) : Dp' P w K mg base 8 "cut" ["lines", "net", "first", "behind"] (spP K ct 4 f_cut) := by
  obtain ⟨fa, fd, hm, F⟩ := F
  have nd := sc_cut.nd
  refine ⟨fa, fd, hm, F.kp, F.bindsN (fun _ _ _ _ _ _ us hl => match us, hl with | [_, _, _, _], _ => rfl), def_P (k := 7) F sc_cut rfl fun cdv A outer s H E hr => ?_⟩
  have tk := takes_of (X := cxG P w K mg base ["lines", "net", "first", "behind", "found", "layer", "left", "low", "high"] "cut" s_cut fa cdv A outer s H E) rfl rfl rfl rfl
  have hp : PassesOwn (model P w) _ _ (cxG P w K mg base ["lines", "net", "first", "behind", "found", "layer", "left", "low", "high"] "cut" s_cut fa cdv A outer s H E).xe := passes_of rfl
  exact (gs_cons (gs_drop (gc_P D.need_net hr (by decide) tk rfl (an_cons (an_cons an_nil)) (ga_cons (ge_var (pv 0)) (ga_cons (ge_var (pv 1)) ga_nil)))) (gs_cons (gs_if (PW.pt (gw_or (gt_not (gt_val (gc_P D.is_among hr (by decide) tk rfl (an_cons (an_cons (an_cons an_nil))) (ga_cons (ge_var (pv 2)) (ga_cons ge_int (ga_cons (ge_op op_sub od_sub (ge_var (pv 0)) ge_int) ga_nil)))))) (gw_or1 (gt_not (gt_val (gc_P D.is_among hr (by decide) tk rfl (an_cons (an_cons (an_cons an_nil))) (ga_cons (ge_var (pv 3)) (ga_cons (ge_op op_addA (od_add false) (ge_var (pv 2)) ge_int) (ga_cons (ge_var (pv 0)) ga_nil))))))))) (gs_one (gs_raise4 .lines rfl tk B.x_lines.exc B.x_lines.mg B.x_lines.keep (B.x_lines.raises) rfl)) gs_nil) (gs_cons (gs_asg (t := .nm 4) (ps_set nd rfl (by first | exact .inl rfl | exact .inr rfl) (ge_lst true ga_nil))) (gs_cons (gs_for (it := itSeq (xVar 1)) (b := b_cut_0) (t := .nm 5) hp rfl (gi_seq (ge_var (pv 1))) (pg_name (i := 5) nd rfl (by first | exact .inl rfl | exact .inr rfl)) (gs_cons (gs_lc (own := [("low", 7), ("high", 8)]) (t := .tp [7, 8]) (i := 6) (c := false) (by decide) (ps_setLc rfl nd rfl rfl (sw_true rfl rfl rfl (by decide +kernel)) (own := [("low", 7), ("high", 8)]) (gi_seq (ge_var (pv 5))) (blkOk_by (own := [("low", 7), ("high", 8)]) (by kernel_rfl)) (fun _ _ _ _ _ => (pg_tup rfl (pgs_cons (pg_name (i := 7) nd rfl (by first | exact .inl rfl | exact .inr rfl)) (pgs_cons (pg_name (i := 8) nd rfl (by first | exact .inl rfl | exact .inr rfl)) pgs_nil)))) (fun _ _ _ _ _ => gts_one (PW.pt (gw_and (gt_cmp op_le od_le (ge_var (pv 2)) (ge_var (pv 7)) (nomark _)) (gw_and1 (gt_cmp op_lt od_lt (ge_var (pv 8)) (ge_var (pv 3)) (nomark _)))))) (fun _ _ _ _ _ => (ge_tup (ga_cons (ge_op op_sub od_sub (ge_var (pv 7)) (ge_var (pv 2))) (ga_cons (ge_op op_sub od_sub (ge_var (pv 8)) (ge_var (pv 2))) ga_nil)))))) (gs_one (gs_if (gt_cmp (op_neD hr.units) od_ne (ge_var (pv 6)) (ge_lst false ga_nil) (nomark _)) (gs_one (gs_drop (ge_app (ge_var (pv 4)) (ge_var (pv 6))))) gs_nil)))) (gs_one (gs_ret (ge_var (pv 4))))))))
abbrev s__law_cell_at : Stmt := top 32
theorem sc__law_cell_at : FnScope ["_law_script", "_law_k"] ["_law_script", "_law_k"] (defScope s__law_cell_at) := ⟨rfl, rfl, rfl, by decide +kernel, rfl, by decide +kernel, by decide +kernel⟩
structure D__law_cell_at (P : Program) (w : World) (K : PySem.W.Frag) (mg : Str → Option Value) (base : Heap) (ct : Ct) : Prop where
  u_ : True
def c__law_cell_at : En → M Fl := sSeq (sIf (bVal (xBin opLt (xVar 1) (xCall opLen (aCons (xVar 0) (aNil))))) (sRet (xBin opIx (xVar 0) (xVar 1))) (sSkip)) (sRet (xC (.int 0)))
def f__law_cell_at : List D → Rp := runP c__law_cell_at 2
theorem F__law_cell_at (a0 a1 : D) : f__law_cell_at [a0, a1] = kP (c__law_cell_at [some a0, some a1] []) := rfl
theorem d__law_cell_at (F : ∃ fa fd, mg "_law_cell_at" = some (.ref fa) ∧ FunG K "_law_cell_at" s__law_cell_at fa fd) (B : Bt K mg ct) (D : D__law_cell_at P w K mg base ct) : Dp' P w K mg base 2 "_law_cell_at" ["_law_script", "_law_k"] (spP K ct 2 f__law_cell_at) := by
  obtain ⟨fa, fd, hm, F⟩ := F
  have nd := sc__law_cell_at.nd
  refine ⟨fa, fd, hm, F.kp, F.bindsN (fun _ _ _ _ _ _ us hl => match us, hl with | [_, _], _ => rfl), def_P (k := 1) F sc__law_cell_at rfl fun cdv A outer s H E hr => ?_⟩
  have tk := takes_of (X := cxG P w K mg base ["_law_script", "_law_k"] "_law_cell_at" s__law_cell_at fa cdv A outer s H E) rfl rfl rfl rfl
  exact (gs_cons (gs_if (gt_cmp op_lt od_lt (ge_var (pv 1)) (ge_callB call_len cd_len rfl B.len PySem.boot_len (ga_cons (ge_var (pv 0)) ga_nil)) (nomark _)) (gs_one (gs_ret (ge_ix ix_seq od_ix (ge_var (pv 0)) (ge_var (pv 1)) (fun _ _ => rfl)))) gs_nil) (gs_one (gs_ret ge_int)))
abbrev s__law_whole : Stmt := top 33
theorem sc__law_whole : FnScope ["_law_found"] ["_law_found"] (defScope s__law_whole) := ⟨rfl, rfl, rfl, by decide +kernel, rfl, by decide +kernel, by decide +kernel⟩
structure D__law_whole (P : Program) (w : World) (K : PySem.W.Frag) (mg : Str → Option Value) (base : Heap) (ct : Ct) : Prop where
  u_ : True
def c__law_whole : En → M Fl := sRet (xAnd (xUn (opIs .int) (xVar 0)) (xNot (xUn (opIs .bool) (xVar 0))))
def f__law_whole : List D → Rp := runP c__law_whole 1
theorem F__law_whole (a0 : D) : f__law_whole [a0] = kP (c__law_whole [some a0] []) := rfl
theorem d__law_whole (F : ∃ fa fd, mg "_law_whole" = some (.ref fa) ∧ FunG K "_law_whole" s__law_whole fa fd) (B : Bt K mg ct) (D : D__law_whole P w K mg base ct) : Dp' P w K mg base 2 "_law_whole" ["_law_found"] (spP K ct 1 f__law_whole) := by
  obtain ⟨fa, fd, hm, F⟩ := F
  have nd := sc__law_whole.nd
  refine ⟨fa, fd, hm, F.kp, F.bindsN (fun _ _ _ _ _ _ us hl => match us, hl with | [_], _ => rfl), def_P (k := 1) F sc__law_whole rfl fun cdv A outer s H E hr => ?_⟩
  have tk := takes_of (X := cxG P w K mg base ["_law_found"] "_law_whole" s__law_whole fa cdv A outer s H E) rfl rfl rfl rfl
  exact (gs_one (gs_ret (ge_and (ge_isi (T := .int) rfl B.isinstance rfl B.int (by decide +kernel) (ge_var (pv 0))) (ge_one (ge_not (ge_isi (T := .bool) rfl B.isinstance rfl B.bool (by decide +kernel) (ge_var (pv 0))))))))
abbrev s__law_place : Stmt := top 34
theorem sc__law_place : FnScope ["_law_found", "_law_low", "_law_high", "_law_done", "_law_read", "_law_at"] ["_law_found", "_law_low", "_law_high", "_law_done", "_law_read"] (defScope s__law_place) := ⟨rfl, rfl, rfl, by decide +kernel, rfl, by decide +kernel, by decide +kernel⟩
structure D__law_place (P : Program) (w : World) (K : PySem.W.Frag) (mg : Str → Option Value) (base : Heap) (ct : Ct) : Prop where
  u_ : True
def c__law_place : En → M Fl := sSeq (sAsg (xCall opMax3 (aCons (xBin opIx (xVar 3) (xVar 1)) (aCons (xBin opIx (xVar 3) (xVar 2)) (aCons (xBin opIx (xVar 4) (xVar 2)) (aNil))))) (.nm 5)) (sSeq (sWhile (bVal (xBin opLe (xCall opLen (aCons (xVar 0) (aNil))) (xVar 5))) (sDrop (xApp (xVar 0) (xLst true (aNil)))) 3) (sSeq (sDrop (xApp (xBin opIx (xVar 0) (xVar 5)) (xTup (aCons (xVar 2) (aCons (xVar 1) (aNil)))))) (sSeq (sSetIx (xCall opMax2 (aCons (xBin opIx (xVar 4) (xVar 1)) (aCons (xVar 5) (aNil)))) (xVar 4) (xVar 1)) (sSetIx (xBin (opAdd false) (xVar 5) (xC (.int 1))) (xVar 3) (xVar 2)))))
def f__law_place : List D → M D := runM c__law_place 6
theorem F__law_place (a0 a1 a2 a3 a4 : D) (cs : Cs) : f__law_place [a0, a1, a2, a3, a4] cs = kM (c__law_place [some a0, some a1, some a2, some a3, some a4, none] cs) := e_runM ..
theorem d__law_place (F : ∃ fa fd, mg "_law_place" = some (.ref fa) ∧ FunG K "_law_place" s__law_place fa fd) (B : Bt K mg ct) (D : D__law_place P w K mg base ct) : Dp' P w K mg base 2 "_law_place" ["_law_found", "_law_low", "_law_high", "_law_done", "_law_read"] (spM K ct 5 f__law_place) := by
  obtain ⟨fa, fd, hm, F⟩ := F
  have nd := sc__law_place.nd
  refine ⟨fa, fd, hm, F.kp, F.bindsN (fun _ _ _ _ _ _ us hl => match us, hl with | [_, _, _, _, _], _ => rfl), def_M (k := 1) F sc__law_place rfl fun cdv A outer s H E hr => ?_⟩
  have tk := takes_of (X := cxG P w K mg base ["_law_found", "_law_low", "_law_high", "_law_done", "_law_read", "_law_at"] "_law_place" s__law_place fa cdv A outer s H E) rfl rfl rfl rfl
  have hp : PassesOwn (model P w) _ _ (cxG P w K mg base ["_law_found", "_law_low", "_law_high", "_law_done", "_law_read", "_law_at"] "_law_place" s__law_place fa cdv A outer s H E).xe := passes_of rfl
  exact (gs_cons (gs_asg (t := .nm 5) (ps_set nd rfl (by first | exact .inl rfl | exact .inr rfl) (ge_callB (cr_max3 rfl) cd_max3 rfl B.max (by decide +kernel) (ga_cons (ge_ix ix_seq od_ix (ge_var (pv 3)) (ge_var (pv 1)) (fun _ _ => rfl)) (ga_cons (ge_ix ix_seq od_ix (ge_var (pv 3)) (ge_var (pv 2)) (fun _ _ => rfl)) (ga_cons (ge_ix ix_seq od_ix (ge_var (pv 4)) (ge_var (pv 2)) (fun _ _ => rfl)) ga_nil)))))) (gs_cons (gs_while 3 hp (gt_cmp op_le od_le (ge_callB call_len cd_len rfl B.len PySem.boot_len (ga_cons (ge_var (pv 0)) ga_nil)) (ge_var (pv 5)) (nomark _)) (gs_one (gs_drop (ge_app (ge_var (pv 0)) (ge_lst true ga_nil))))) (gs_cons (gs_drop (ge_app (ge_ix ix_seq od_ix (ge_var (pv 0)) (ge_var (pv 5)) (fun _ _ => rfl)) (ge_tup (ga_cons (ge_var (pv 2)) (ga_cons (ge_var (pv 1)) ga_nil))))) (gs_cons (gs_setIx (ps_asg (ge_callB (call_max2 rfl) cd_max2 rfl B.max (by decide +kernel) (ga_cons (ge_ix ix_seq od_ix (ge_var (pv 4)) (ge_var (pv 1)) (fun _ _ => rfl)) (ga_cons (ge_var (pv 5)) ga_nil))) (pg_sub (ge_var (pv 4)) (ge_var (pv 1)) set_list))) (gs_one (gs_setIx (ps_asg (ge_op op_addA (od_add false) (ge_var (pv 5)) ge_int) (pg_sub (ge_var (pv 3)) (ge_var (pv 2)) set_list))))))))
abbrev s__law_thinner : Stmt := top 35
theorem sc__law_thinner : FnScope ["_law_found", "_law_lines", "_law_cell", "_law_done", "_law_read", "_law_left", "_law_fewer", "_law_k"] ["_law_found", "_law_lines", "_law_cell", "_law_done", "_law_read", "_law_left"] (defScope s__law_thinner) := ⟨rfl, rfl, rfl, by decide +kernel, rfl, by decide +kernel, by decide +kernel⟩
structure D__law_thinner (P : Program) (w : World) (K : PySem.W.Frag) (mg : Str → Option Value) (base : Heap) (ct : Ct) : Prop where
  _law_place : Dp' P w K mg base 2 "_law_place" ["_law_found", "_law_low", "_law_high", "_law_done", "_law_read"] (spM K ct 5 f__law_place)
  u_ : True
def c__law_thinner : En → M Fl := sSeq (sAsg (xLst true (aNil)) (.nm 6)) (sSeq (sAsg (xC (.int 0)) (.nm 7)) (sSeq (sWhile (bVal (xBin opLt (xVar 7) (xCall opLen (aCons (xVar 1) (aNil))))) (sSeq (sIf (bAnd (bVal (xBin opLt (xBin (opAdd false) (xVar 7) (xC (.int 1))) (xCall opLen (aCons (xVar 1) (aNil))))) (bVal (xBin opGt (xBin opMod (xBin opDiv (xVar 2) (xBin (opAdd false) (xC (.int 1)) (xVar 7))) (xC (.int 4))) (xC (.int 0))))) (sSeq (sDrop (xCallM f__law_place (aCons (xVar 0) (aCons (xBin opIx (xVar 1) (xVar 7)) (aCons (xBin opIx (xVar 1) (xBin (opAdd false) (xVar 7) (xC (.int 1)))) (aCons (xVar 3) (aCons (xVar 4) (aNil)))))))) (sSeq (sIf (bVal (xBin (opEq false) (xVar 6) (xLst false (aNil)))) (sDrop (xApp (xVar 5) (xTup (aCons (xBin opIx (xVar 6) (xUn opNeg (xC (.int 1)))) (aCons (xBin opIx (xVar 1) (xVar 7)) (aNil)))))) (sSkip)) (sAsg (xBin (opAdd false) (xVar 7) (xC (.int 1))) (.nm 7)))) (sSkip)) (sSeq (sDrop (xApp (xVar 6) (xBin opIx (xVar 1) (xVar 7)))) (sAsg (xBin (opAdd false) (xVar 7) (xC (.int 1))) (.nm 7)))) 70) (sRet (xVar 6))))
def f__law_thinner : List D → M D := runM c__law_thinner 8
theorem F__law_thinner (a0 a1 a2 a3 a4 a5 : D) (cs : Cs) : f__law_thinner [a0, a1, a2, a3, a4, a5] cs = kM (c__law_thinner [some a0, some a1, some a2, some a3, some a4, some a5, none, none] cs) := e_runM ..
theorem d__law_thinner (F : ∃ fa fd, mg "_law_thinner" = some (.ref fa) ∧ FunG K "_law_thinner" s__law_thinner fa fd) (B : Bt K mg ct) (D : D__law_thinner P w K mg base ct) : Dp' P w K mg base 3 "_law_thinner" ["_law_found", "_law_lines", "_law_cell", "_law_done", "_law_read", "_law_left"] (spM K ct 6 f__law_thinner) := by
  obtain ⟨fa, fd, hm, F⟩ := F
  have nd := sc__law_thinner.nd
  refine ⟨fa, fd, hm, F.kp, F.bindsN (fun _ _ _ _ _ _ us hl => match us, hl with | [_, _, _, _, _, _], _ => rfl), def_M (k := 2) F sc__law_thinner rfl fun cdv A outer s H E hr => ?_⟩
  have tk := takes_of (X := cxG P w K mg base ["_law_found", "_law_lines", "_law_cell", "_law_done", "_law_read", "_law_left", "_law_fewer", "_law_k"] "_law_thinner" s__law_thinner fa cdv A outer s H E) rfl rfl rfl rfl
  have hp : PassesOwn (model P w) _ _ (cxG P w K mg base ["_law_found", "_law_lines", "_law_cell", "_law_done", "_law_read", "_law_left", "_law_fewer", "_law_k"] "_law_thinner" s__law_thinner fa cdv A outer s H E).xe := passes_of rfl
  exact (gs_cons (gs_asg (t := .nm 6) (ps_set nd rfl (by first | exact .inl rfl | exact .inr rfl) (ge_lst true ga_nil))) (gs_cons (gs_asg (t := .nm 7) (ps_set nd rfl (by first | exact .inl rfl | exact .inr rfl) ge_int)) (gs_cons (gs_while 70 hp (gt_cmp op_lt od_lt (ge_var (pv 7)) (ge_callB call_len cd_len rfl B.len PySem.boot_len (ga_cons (ge_var (pv 1)) ga_nil)) (nomark _)) (gs_cons (gs_if (PW.pt (gw_and (gt_cmp op_lt od_lt (ge_op op_addA (od_add false) (ge_var (pv 7)) ge_int) (ge_callB call_len cd_len rfl B.len PySem.boot_len (ga_cons (ge_var (pv 1)) ga_nil)) (nomark _)) (gw_and1 (gt_cmp op_gt od_gt (ge_op op_mod od_mod (ge_op op_fdiv od_div (ge_var (pv 2)) (ge_op op_addA (od_add false) ge_int (ge_var (pv 7)))) ge_int) ge_int (nomark _))))) (gs_cons (gs_drop (gc_M D._law_place hr (by decide) tk rfl (an_cons (an_cons (an_cons (an_cons (an_cons an_nil))))) (ga_cons (ge_var (pv 0)) (ga_cons (ge_ix ix_seq od_ix (ge_var (pv 1)) (ge_var (pv 7)) (fun _ _ => rfl)) (ga_cons (ge_ix ix_seq od_ix (ge_var (pv 1)) (ge_op op_addA (od_add false) (ge_var (pv 7)) ge_int) (fun _ _ => rfl)) (ga_cons (ge_var (pv 3)) (ga_cons (ge_var (pv 4)) ga_nil))))))) (gs_cons (gs_if (gt_cmp (op_neD hr.units) od_ne (ge_var (pv 6)) (ge_lst false ga_nil) (nomark _)) (gs_one (gs_drop (ge_app (ge_var (pv 5)) (ge_tup (ga_cons (ge_ix ix_seq od_ix (ge_var (pv 6)) (ge_un un_neg ud_neg ge_int) (fun _ _ => rfl)) (ga_cons (ge_ix ix_seq od_ix (ge_var (pv 1)) (ge_var (pv 7)) (fun _ _ => rfl)) ga_nil)))))) gs_nil) (gs_one (gs_asg (t := .nm 7) (ps_set nd rfl (by first | exact .inl rfl | exact .inr rfl) (ge_op op_addA (od_add false) (ge_var (pv 7)) ge_int)))))) gs_nil) (gs_cons (gs_drop (ge_app (ge_var (pv 6)) (ge_ix ix_seq od_ix (ge_var (pv 1)) (ge_var (pv 7)) (fun _ _ => rfl)))) (gs_one (gs_asg (t := .nm 7) (ps_set nd rfl (by first | exact .inl rfl | exact .inr rfl) (ge_op op_addA (od_add false) (ge_var (pv 7)) ge_int))))))) (gs_one (gs_ret (ge_var (pv 6)))))))
abbrev s__law_telling : Stmt := top 36
theorem sc__law_telling : FnScope ["_law_cell", "_law_lines", "_law_found", "_law_left", "_law_done", "_law_read", "_law_active", "_law_turn", "_law_groups", "_law_at", "_law_high", "_law_middle", "_law_low", "_law_line", "_law_layer"] ["_law_cell", "_law_lines"] (defScope s__law_telling) := ⟨rfl, rfl, rfl, by decide +kernel, rfl, by decide +kernel, by decide +kernel⟩
structure D__law_telling (P : Program) (w : World) (K : PySem.W.Frag) (mg : Str → Option Value) (base : Heap) (ct : Ct) : Prop where
  _law_thinner : Dp' P w K mg base 3 "_law_thinner" ["_law_found", "_law_lines", "_law_cell", "_law_done", "_law_read", "_law_left"] (spM K ct 6 f__law_thinner)
  _law_place : Dp' P w K mg base 2 "_law_place" ["_law_found", "_law_low", "_law_high", "_law_done", "_law_read"] (spM K ct 5 f__law_place)
  u_ : True
def c__law_telling : En → M Fl := sSeq (sAsg (xBin opMod (xBin (opMulX false) (xVar 0) (xC (.int 48271))) (xC (.int 2147483647))) (.nm 0)) (sSeq (sAsg (xLst true (aNil)) (.nm 2)) (sSeq (sAsg (xLst true (aNil)) (.nm 3)) (sSeq (sAsg (xBin (opMulX true) (xLst false (aCons (xC (.int 0)) (aNil))) (xVar 1)) (.nm 4)) (sSeq (sAsg (xBin (opMulX true) (xLst false (aCons (xC (.int 0)) (aNil))) (xVar 1)) (.nm 5)) (sSeq (sAsg (xUn (opRg false false) (xVar 1)) (.nm 6)) (sSeq (sFor (itR1 (xBin opMod (xVar 0) (xC (.int 4)))) (.nm 7) (sAsg (xCallM f__law_thinner (aCons (xVar 2) (aCons (xVar 6) (aCons (xBin opDiv (xBin opDiv (xVar 0) (xC (.int 4))) (xBin (opAdd false) (xC (.int 1)) (xVar 7))) (aCons (xVar 4) (aCons (xVar 5) (aCons (xVar 3) (aNil)))))))) (.nm 6))) (sSeq (sAsg (xLcN false (itSeq (xVar 6)) [13] (.nm 13) (bYes) (xLst false (aCons (xVar 13) (aNil)))) (.nm 8)) (sSeq (sWhile (bVal (xBin opGt (xCall opLen (aCons (xVar 8) (aNil))) (xC (.int 1)))) (sSeq (sAsg (xBin opMod (xBin (opMulX false) (xVar 0) (xC (.int 16807))) (xC (.int 2147483647))) (.nm 0)) (sSeq (sAsg (xBin opIx (xLst false (aCons (xBin opMod (xBin opDiv (xVar 0) (xC (.int 3))) (xBin opSub (xCall opLen (aCons (xVar 8) (aNil))) (xC (.int 1)))) (aCons (xC (.int 0)) (aCons (xBin opSub (xCall opLen (aCons (xVar 8) (aNil))) (xC (.int 2))) (aNil))))) (xBin opMod (xVar 0) (xC (.int 3)))) (.nm 9)) (sSeq (sFor (itSeq (xBin opIx (xVar 8) (xBin (opAdd false) (xVar 9) (xC (.int 1))))) (.nm 10) (sDrop (xCallM f__law_place (aCons (xVar 2) (aCons (xBin opIx (xBin opIx (xVar 8) (xVar 9)) (xUn opNeg (xC (.int 1)))) (aCons (xVar 10) (aCons (xVar 4) (aCons (xVar 5) (aNil))))))))) (sSeq (sAsg (xBin (opAdd false) (xBin opIx (xVar 8) (xVar 9)) (xBin opIx (xVar 8) (xBin (opAdd false) (xVar 9) (xC (.int 1))))) (.nm 11)) (sAsg (xBin (opAdd false) (xBin (opAdd false) (xSl false (xVar 8) (pNo) (pSome (xVar 9))) (xLst false (aCons (xVar 11) (aNil)))) (xSl false (xVar 8) (pSome (xBin (opAdd false) (xVar 9) (xC (.int 2)))) (pNo))) (.nm 8)))))) 70) (sSeq (sFor (itRev (xVar 3)) (.tp [12, 10]) (sDrop (xCallM f__law_place (aCons (xVar 2) (aCons (xVar 12) (aCons (xVar 10) (aCons (xVar 4) (aCons (xVar 5) (aNil))))))))) (sRet (xLcN false (itSeq (xVar 2)) [14] (.nm 14) (bYes) (xLcN false (itSeq (xCall (opSorted false) (aCons (xVar 14) (aNil)))) [10, 12] (.tp [10, 12]) (bYes) (xTup (aCons (xVar 12) (aCons (xVar 10) (aNil))))))))))))))))
def f__law_telling : List D → Rp := runP c__law_telling 15
theorem F__law_telling (a0 a1 : D) : f__law_telling [a0, a1] = kP (c__law_telling [some a0, some a1, none, none, none, none, none, none, none, none, none, none, none, none, none] []) := rfl
theorem d__law_telling (F : ∃ fa fd, mg "_law_telling" = some (.ref fa) ∧ FunG K "_law_telling" s__law_telling fa fd) (B : Bt K mg ct) (D : D__law_telling P w K mg base ct) : Dp' P w K mg base 4 "_law_telling" ["_law_cell", "_law_lines"] (spP K ct 2 f__law_telling) := by
  obtain ⟨fa, fd, hm, F⟩ := F
  have nd := sc__law_telling.nd
  refine ⟨fa, fd, hm, F.kp, F.bindsN (fun _ _ _ _ _ _ us hl => match us, hl with | [_, _], _ => rfl), def_P (k := 3) F sc__law_telling rfl fun cdv A outer s H E hr => ?_⟩
  have tk := takes_of (X := cxG P w K mg base ["_law_cell", "_law_lines", "_law_found", "_law_left", "_law_done", "_law_read", "_law_active", "_law_turn", "_law_groups", "_law_at", "_law_high", "_law_middle", "_law_low", "_law_line", "_law_layer"] "_law_telling" s__law_telling fa cdv A outer s H E) rfl rfl rfl rfl
  have hp : PassesOwn (model P w) _ _ (cxG P w K mg base ["_law_cell", "_law_lines", "_law_found", "_law_left", "_law_done", "_law_read", "_law_active", "_law_turn", "_law_groups", "_law_at", "_law_high", "_law_middle", "_law_low", "_law_line", "_law_layer"] "_law_telling" s__law_telling fa cdv A outer s H E).xe := passes_of rfl
  exact (gs_cons (gs_asg (t := .nm 0) (ps_set nd rfl (by first | exact .inl rfl | exact .inr rfl) (ge_op op_mod od_mod (ge_op op_mulX (od_mulX false) (ge_var (pv 0)) ge_int) ge_int))) (gs_cons (gs_asg (t := .nm 2) (ps_set nd rfl (by first | exact .inl rfl | exact .inr rfl) (ge_lst true ga_nil))) (gs_cons (gs_asg (t := .nm 3) (ps_set nd rfl (by first | exact .inl rfl | exact .inr rfl) (ge_lst true ga_nil))) (gs_cons (gs_asg (t := .nm 4) (ps_set nd rfl (by first | exact .inl rfl | exact .inr rfl) (ge_op op_mulX (od_mulX true) (ge_lst false (ga_cons ge_int ga_nil)) (ge_var (pv 1))))) (gs_cons (gs_asg (t := .nm 5) (ps_set nd rfl (by first | exact .inl rfl | exact .inr rfl) (ge_op op_mulX (od_mulX true) (ge_lst false (ga_cons ge_int ga_nil)) (ge_var (pv 1))))) (gs_cons (gs_asg (t := .nm 6) (ps_set nd rfl (by first | exact .inl rfl | exact .inr rfl) (ge_listRg false rfl rfl B.list rfl B.range (ge_var (pv 1))))) (gs_cons (gs_for (t := .nm 7) hp rfl (gi_r1 rfl B.range (ge_op op_mod od_mod (ge_var (pv 0)) ge_int)) (pg_name (i := 7) nd rfl (by first | exact .inl rfl | exact .inr rfl)) (gs_one (gs_asg (t := .nm 6) (ps_set nd rfl (by first | exact .inl rfl | exact .inr rfl) (gc_M D._law_thinner hr (by decide) tk rfl (an_cons (an_cons (an_cons (an_cons (an_cons (an_cons an_nil)))))) (ga_cons (ge_var (pv 2)) (ga_cons (ge_var (pv 6)) (ga_cons (ge_op op_fdiv od_div (ge_op op_fdiv od_div (ge_var (pv 0)) ge_int) (ge_op op_addA (od_add false) ge_int (ge_var (pv 7)))) (ga_cons (ge_var (pv 4)) (ga_cons (ge_var (pv 5)) (ga_cons (ge_var (pv 3)) ga_nil))))))))))) (gs_cons (gs_lc (own := [("_law_line", 13)]) (t := .nm 13) (i := 8) (c := false) (by decide) (ps_setLc rfl nd rfl rfl (sw_true rfl rfl rfl (by decide +kernel)) (own := [("_law_line", 13)]) (gi_seq (ge_var (pv 6))) (blkOk_by (own := [("_law_line", 13)]) (by kernel_rfl)) (fun _ _ _ _ _ => (pg_name (i := 13) nd rfl (by first | exact .inl rfl | exact .inr rfl))) (fun _ _ _ _ _ => gts_nil) (fun _ _ _ _ _ => (ge_lst false (ga_cons (ge_var (pv 13)) ga_nil))))) (gs_cons (gs_while 70 hp (gt_cmp op_gt od_gt (ge_callB call_len cd_len rfl B.len PySem.boot_len (ga_cons (ge_var (pv 8)) ga_nil)) ge_int (nomark _)) (gs_cons (gs_asg (t := .nm 0) (ps_set nd rfl (by first | exact .inl rfl | exact .inr rfl) (ge_op op_mod od_mod (ge_op op_mulX (od_mulX false) (ge_var (pv 0)) ge_int) ge_int))) (gs_cons (gs_asg (t := .nm 9) (ps_set nd rfl (by first | exact .inl rfl | exact .inr rfl) (ge_ix ix_seq od_ix (ge_lst false (ga_cons (ge_op op_mod od_mod (ge_op op_fdiv od_div (ge_var (pv 0)) ge_int) (ge_op op_sub od_sub (ge_callB call_len cd_len rfl B.len PySem.boot_len (ga_cons (ge_var (pv 8)) ga_nil)) ge_int)) (ga_cons ge_int (ga_cons (ge_op op_sub od_sub (ge_callB call_len cd_len rfl B.len PySem.boot_len (ga_cons (ge_var (pv 8)) ga_nil)) ge_int) ga_nil)))) (ge_op op_mod od_mod (ge_var (pv 0)) ge_int) (fun _ _ => rfl)))) (gs_cons (gs_for (t := .nm 10) hp rfl (gi_seq (ge_ix ix_seq od_ix (ge_var (pv 8)) (ge_op op_addA (od_add false) (ge_var (pv 9)) ge_int) (fun _ _ => rfl))) (pg_name (i := 10) nd rfl (by first | exact .inl rfl | exact .inr rfl)) (gs_one (gs_drop (gc_M D._law_place hr (by decide) tk rfl (an_cons (an_cons (an_cons (an_cons (an_cons an_nil))))) (ga_cons (ge_var (pv 2)) (ga_cons (ge_ix ix_seq od_ix (ge_ix ix_seq od_ix (ge_var (pv 8)) (ge_var (pv 9)) (fun _ _ => rfl)) (ge_un un_neg ud_neg ge_int) (fun _ _ => rfl)) (ga_cons (ge_var (pv 10)) (ga_cons (ge_var (pv 4)) (ga_cons (ge_var (pv 5)) ga_nil))))))))) (gs_cons (gs_asg (t := .nm 11) (ps_set nd rfl (by first | exact .inl rfl | exact .inr rfl) (ge_op op_addA (od_add false) (ge_ix ix_seq od_ix (ge_var (pv 8)) (ge_var (pv 9)) (fun _ _ => rfl)) (ge_ix ix_seq od_ix (ge_var (pv 8)) (ge_op op_addA (od_add false) (ge_var (pv 9)) ge_int) (fun _ _ => rfl))))) (gs_one (gs_asg (t := .nm 8) (ps_set nd rfl (by first | exact .inl rfl | exact .inr rfl) (ge_op op_addA (od_add false) (ge_op op_addA (od_add false) (ge_sl false (ge_var (pv 8)) go_no (go_some (ge_var (pv 9)))) (ge_lst false (ga_cons (ge_var (pv 11)) ga_nil))) (ge_sl false (ge_var (pv 8)) (go_some (ge_op op_addA (od_add false) (ge_var (pv 9)) ge_int)) go_no)))))))))) (gs_cons (gs_for (t := .tp [12, 10]) hp rfl (gi_rev rfl B.reversed (ge_var (pv 3))) (pg_tup rfl (pgs_cons (pg_name (i := 12) nd rfl (by first | exact .inl rfl | exact .inr rfl)) (pgs_cons (pg_name (i := 10) nd rfl (by first | exact .inl rfl | exact .inr rfl)) pgs_nil))) (gs_one (gs_drop (gc_M D._law_place hr (by decide) tk rfl (an_cons (an_cons (an_cons (an_cons (an_cons an_nil))))) (ga_cons (ge_var (pv 2)) (ga_cons (ge_var (pv 12)) (ga_cons (ge_var (pv 10)) (ga_cons (ge_var (pv 4)) (ga_cons (ge_var (pv 5)) ga_nil))))))))) (gs_one (gs_ret (ge_lc false rfl nd (own := [("_law_layer", 14)]) (t := .nm 14) (gi_seq (ge_var (pv 2))) (blkOk_by (own := [("_law_layer", 14)]) (by kernel_rfl)) (by decide) (fun _ _ _ _ _ => (pg_name (i := 14) nd rfl (by first | exact .inl rfl | exact .inr rfl))) (fun _ _ _ _ _ => gts_nil) (fun _ _ _ _ _ => (ge_lc false rfl nd (own := [("_law_high", 10), ("_law_low", 12)]) (t := .tp [10, 12]) (gi_seq (ge_callB cr_sortedPO (cd_sorted false) rfl B.sorted (by decide +kernel) (ga_cons (ge_var (pv 14)) ga_nil))) (blkOk_by (own := [("_law_high", 10), ("_law_low", 12)]) (by kernel_rfl)) (by decide) (fun _ _ _ _ _ => (pg_tup rfl (pgs_cons (pg_name (i := 10) nd rfl (by first | exact .inl rfl | exact .inr rfl)) (pgs_cons (pg_name (i := 12) nd rfl (by first | exact .inl rfl | exact .inr rfl)) pgs_nil)))) (fun _ _ _ _ _ => gts_nil) (fun _ _ _ _ _ => (ge_tup (ga_cons (ge_var (pv 12)) (ga_cons (ge_var (pv 10)) ga_nil)))))))))))))))))))
abbrev s__law_lines_by : Stmt := top 37
theorem sc__law_lines_by : FnScope ["_law_cell", "_law_lines"] ["_law_cell"] (defScope s__law_lines_by) := ⟨rfl, rfl, rfl, by decide +kernel, rfl, by decide +kernel, by decide +kernel⟩
structure D__law_lines_by (P : Program) (w : World) (K : PySem.W.Frag) (mg : Str → Option Value) (base : Heap) (ct : Ct) : Prop where
  u_ : True
def c__law_lines_by : En → M Fl := sSeq (sAsg (xBin (opAdd false) (xC (.int 1)) (xBin opMod (xVar 0) (xC (.int 12)))) (.nm 1)) (sSeq (sIf (bVal (xBin (opEq true) (xBin opMod (xBin opDiv (xVar 0) (xC (.int 12))) (xC (.int 9))) (xC (.int 1)))) (sAsg (xBin (opAdd false) (xC (.int 13)) (xBin opMod (xBin opDiv (xVar 0) (xC (.int 108))) (xC (.int 20)))) (.nm 1)) (sSkip)) (sRet (xVar 1)))
def f__law_lines_by : List D → Rp := runP c__law_lines_by 2
theorem F__law_lines_by (a0 : D) : f__law_lines_by [a0] = kP (c__law_lines_by [some a0, none] []) := rfl
theorem d__law_lines_by (F : ∃ fa fd, mg "_law_lines_by" = some (.ref fa) ∧ FunG K "_law_lines_by" s__law_lines_by fa fd) (B : Bt K mg ct) (D : D__law_lines_by P w K mg base ct) : Dp' P w K mg base 2 "_law_lines_by" ["_law_cell"] (spP K ct 1 f__law_lines_by) := by
  obtain ⟨fa, fd, hm, F⟩ := F
  have nd := sc__law_lines_by.nd
  refine ⟨fa, fd, hm, F.kp, F.bindsN (fun _ _ _ _ _ _ us hl => match us, hl with | [_], _ => rfl), def_P (k := 1) F sc__law_lines_by rfl fun cdv A outer s H E hr => ?_⟩
  have tk := takes_of (X := cxG P w K mg base ["_law_cell", "_law_lines"] "_law_lines_by" s__law_lines_by fa cdv A outer s H E) rfl rfl rfl rfl
  exact (gs_cons (gs_asg (t := .nm 1) (ps_set nd rfl (by first | exact .inl rfl | exact .inr rfl) (ge_op op_addA (od_add false) ge_int (ge_op op_mod od_mod (ge_var (pv 0)) ge_int)))) (gs_cons (gs_if (gt_cmp (op_eqD hr.units) od_eq (ge_op op_mod od_mod (ge_op op_fdiv od_div (ge_var (pv 0)) ge_int) ge_int) ge_int (nomark _)) (gs_one (gs_asg (t := .nm 1) (ps_set nd rfl (by first | exact .inl rfl | exact .inr rfl) (ge_op op_addA (od_add false) ge_int (ge_op op_mod od_mod (ge_op op_fdiv od_div (ge_var (pv 0)) ge_int) ge_int))))) gs_nil) (gs_one (gs_ret (ge_var (pv 1))))))
abbrev s__law_made : Stmt := top 38
theorem sc__law_made : FnScope ["_law_which", "_law_cell", "_law_lines", "_law_first"] ["_law_which", "_law_cell", "_law_lines"] (defScope s__law_made) := ⟨rfl, rfl, rfl, by decide +kernel, rfl, by decide +kernel, by decide +kernel⟩
structure D__law_made (P : Program) (w : World) (K : PySem.W.Frag) (mg : Str → Option Value) (base : Heap) (ct : Ct) : Prop where
  one_by_one : Dp' P w K mg base 5 "one_by_one" ["lines"] (spP K ct 1 f_one_by_one)
  doubled : Dp' P w K mg base 5 "doubled" ["lines"] (spP K ct 1 f_doubled)
  by_halves : Dp' P w K mg base 13 "by_halves" ["lines"] (spP K ct 1 f_by_halves)
  by_pairs : Dp' P w K mg base 12 "by_pairs" ["lines"] (spP K ct 1 f_by_pairs)
  _law_telling : Dp' P w K mg base 4 "_law_telling" ["_law_cell", "_law_lines"] (spP K ct 2 f__law_telling)
  beside : Dp' P w K mg base 8 "beside" ["lines", "net", "others", "other"] (spP K ct 4 f_beside)
  cut : Dp' P w K mg base 8 "cut" ["lines", "net", "first", "behind"] (spP K ct 4 f_cut)
  u_ : True
def c__law_made : En → M Fl := sSeq (sIf (bVal (xBin (opEq true) (xVar 0) (xC (.int 0)))) (sRet (xCallP f_one_by_one (aCons (xVar 2) (aNil)))) (sSkip)) (sSeq (sIf (bVal (xBin (opEq true) (xVar 0) (xC (.int 1)))) (sRet (xCallP f_doubled (aCons (xVar 2) (aNil)))) (sSkip)) (sSeq (sIf (bVal (xBin (opEq true) (xVar 0) (xC (.int 2)))) (sRet (xCallP f_by_halves (aCons (xVar 2) (aNil)))) (sSkip)) (sSeq (sIf (bVal (xBin (opEq true) (xVar 0) (xC (.int 3)))) (sRet (xCallP f_by_pairs (aCons (xVar 2) (aNil)))) (sSkip)) (sSeq (sAsg (xBin (opAdd false) (xC (.int 1)) (xBin opMod (xVar 1) (xCall opMax2 (aCons (xC (.int 1)) (aCons (xBin opSub (xVar 2) (xC (.int 1))) (aNil)))))) (.nm 3)) (sSeq (sIf (bAnd (bVal (xBin (opEq true) (xVar 0) (xC (.int 4)))) (bVal (xBin opGt (xVar 2) (xC (.int 1))))) (sRet (xCallP f_beside (aCons (xVar 3) (aCons (xCallP f_by_pairs (aCons (xVar 3) (aNil))) (aCons (xBin opSub (xVar 2) (xVar 3)) (aCons (xCallP f__law_telling (aCons (xBin opDiv (xVar 1) (xC (.int 64))) (aCons (xBin opSub (xVar 2) (xVar 3)) (aNil)))) (aNil))))))) (sSkip)) (sSeq (sIf (bVal (xBin (opEq true) (xVar 0) (xC (.int 5)))) (sRet (xCallP f_cut (aCons (xBin (opAdd false) (xVar 2) (xVar 3)) (aCons (xCallP f__law_telling (aCons (xVar 1) (aCons (xBin (opAdd false) (xVar 2) (xVar 3)) (aNil)))) (aCons (xVar 3) (aCons (xBin (opAdd false) (xVar 2) (xVar 3)) (aNil))))))) (sSkip)) (sRet (xCallP f__law_telling (aCons (xVar 1) (aCons (xVar 2) (aNil)))))))))))
def f__law_made : List D → Rp := runP c__law_made 4
theorem F__law_made (a0 a1 a2 : D) : f__law_made [a0, a1, a2] = kP (c__law_made [some a0, some a1, some a2, none] []) := rfl
theorem d__law_made (F : ∃ fa fd, mg "_law_made" = some (.ref fa) ∧ FunG K "_law_made" s__law_made fa fd) (B : Bt K mg ct) (D : D__law_made P w K mg base ct) : Dp' P w K mg base 14 "_law_made" ["_law_which", "_law_cell", "_law_lines"] (spP K ct 3 f__law_made) := by
  obtain ⟨fa, fd, hm, F⟩ := F
  have nd := sc__law_made.nd
  refine ⟨fa, fd, hm, F.kp, F.bindsN (fun _ _ _ _ _ _ us hl => match us, hl with | [_, _, _], _ => rfl), def_P (k := 13) F sc__law_made rfl fun cdv A outer s H E hr => ?_⟩
  have tk := takes_of (X := cxG P w K mg base ["_law_which", "_law_cell", "_law_lines", "_law_first"] "_law_made" s__law_made fa cdv A outer s H E) rfl rfl rfl rfl
  exact (gs_cons (gs_if (gt_cmp (op_eqD hr.units) od_eq (ge_var (pv 0)) ge_int (nomark _)) (gs_one (gs_ret (gc_P D.one_by_one hr (by decide) tk rfl (an_cons an_nil) (ga_cons (ge_var (pv 2)) ga_nil)))) gs_nil) (gs_cons (gs_if (gt_cmp (op_eqD hr.units) od_eq (ge_var (pv 0)) ge_int (nomark _)) (gs_one (gs_ret (gc_P D.doubled hr (by decide) tk rfl (an_cons an_nil) (ga_cons (ge_var (pv 2)) ga_nil)))) gs_nil) (gs_cons (gs_if (gt_cmp (op_eqD hr.units) od_eq (ge_var (pv 0)) ge_int (nomark _)) (gs_one (gs_ret (gc_P D.by_halves hr (by decide) tk rfl (an_cons an_nil) (ga_cons (ge_var (pv 2)) ga_nil)))) gs_nil) (gs_cons (gs_if (gt_cmp (op_eqD hr.units) od_eq (ge_var (pv 0)) ge_int (nomark _)) (gs_one (gs_ret (gc_P D.by_pairs hr (by decide) tk rfl (an_cons an_nil) (ga_cons (ge_var (pv 2)) ga_nil)))) gs_nil) (gs_cons (gs_asg (t := .nm 3) (ps_set nd rfl (by first | exact .inl rfl | exact .inr rfl) (ge_op op_addA (od_add false) ge_int (ge_op op_mod od_mod (ge_var (pv 1)) (ge_callB (call_max2 rfl) cd_max2 rfl B.max (by decide +kernel) (ga_cons ge_int (ga_cons (ge_op op_sub od_sub (ge_var (pv 2)) ge_int) ga_nil))))))) (gs_cons (gs_if (PW.pt (gw_and (gt_cmp (op_eqD hr.units) od_eq (ge_var (pv 0)) ge_int (nomark _)) (gw_and1 (gt_cmp op_gt od_gt (ge_var (pv 2)) ge_int (nomark _))))) (gs_one (gs_ret (gc_P D.beside hr (by decide) tk rfl (an_cons (an_cons (an_cons (an_cons an_nil)))) (ga_cons (ge_var (pv 3)) (ga_cons (gc_P D.by_pairs hr (by decide) tk rfl (an_cons an_nil) (ga_cons (ge_var (pv 3)) ga_nil)) (ga_cons (ge_op op_sub od_sub (ge_var (pv 2)) (ge_var (pv 3))) (ga_cons (gc_P D._law_telling hr (by decide) tk rfl (an_cons (an_cons an_nil)) (ga_cons (ge_op op_fdiv od_div (ge_var (pv 1)) ge_int) (ga_cons (ge_op op_sub od_sub (ge_var (pv 2)) (ge_var (pv 3))) ga_nil))) ga_nil))))))) gs_nil) (gs_cons (gs_if (gt_cmp (op_eqD hr.units) od_eq (ge_var (pv 0)) ge_int (nomark _)) (gs_one (gs_ret (gc_P D.cut hr (by decide) tk rfl (an_cons (an_cons (an_cons (an_cons an_nil)))) (ga_cons (ge_op op_addA (od_add false) (ge_var (pv 2)) (ge_var (pv 3))) (ga_cons (gc_P D._law_telling hr (by decide) tk rfl (an_cons (an_cons an_nil)) (ga_cons (ge_var (pv 1)) (ga_cons (ge_op op_addA (od_add false) (ge_var (pv 2)) (ge_var (pv 3))) ga_nil))) (ga_cons (ge_var (pv 3)) (ga_cons (ge_op op_addA (od_add false) (ge_var (pv 2)) (ge_var (pv 3))) ga_nil))))))) gs_nil) (gs_one (gs_ret (gc_P D._law_telling hr (by decide) tk rfl (an_cons (an_cons an_nil)) (ga_cons (ge_var (pv 1)) (ga_cons (ge_var (pv 2)) ga_nil))))))))))))
abbrev s__law_rows : Stmt := top 39
theorem sc__law_rows : FnScope ["_law_net", "_law_lines", "_law_now", "_law_layer", "_law_ahead", "_law_low", "_law_high", "_law_line"] ["_law_net", "_law_lines"] (defScope s__law_rows) := ⟨rfl, rfl, rfl, by decide +kernel, rfl, by decide +kernel, by decide +kernel⟩
structure D__law_rows (P : Program) (w : World) (K : PySem.W.Frag) (mg : Str → Option Value) (base : Heap) (ct : Ct) : Prop where
  u_ : True
def e__law_rows_0 : En → M D := xLst false (aCons (xVar 7) (aNil))
def m__law_rows_0 : En → M D := xLcN true (itR1 (xVar 1)) [7] (.nm 7) (bYes) e__law_rows_0
def b__law_rows_0 : En → M Fl := sSetIx (xBin (opAdd false) (xBin opIx (xVar 4) (xVar 5)) (xBin opIx (xVar 4) (xVar 6))) (xVar 2) (xVar 6)
def l__law_rows_0 : En → M Fl := sFor (itSeq (xVar 3)) (.tp [5, 6]) b__law_rows_0
def b__law_rows_1 : En → M Fl := sSeq (sAsg (xCall (opList false) (aCons (xVar 2) (aNil))) (.nm 4)) (l__law_rows_0)
def l__law_rows_1 : En → M Fl := sFor (itSeq (xVar 0)) (.nm 3) b__law_rows_1
def c__law_rows : En → M Fl := sSeq (sAsg (m__law_rows_0) (.nm 2)) (sSeq (l__law_rows_1) (sRet (xVar 2)))
def f__law_rows : List D → Rp := runP c__law_rows 8
theorem F__law_rows (a0 a1 : D) : f__law_rows [a0, a1] = kP (c__law_rows [some a0, some a1, none, none, none, none, none, none] []) := rfl
theorem d__law_rows (F : ∃ fa fd, mg "_law_rows" = some (.ref fa) ∧ FunG K "_law_rows" s__law_rows fa fd) (B : Bt K mg ct) (D : D__law_rows P w K mg base ct) : Dp' P w K mg base 2 "_law_rows" ["_law_net", "_law_lines"] (spP K ct 2 f__law_rows) := by
  obtain ⟨fa, fd, hm, F⟩ := F
  have nd := sc__law_rows.nd
  refine ⟨fa, fd, hm, F.kp, F.bindsN (fun _ _ _ _ _ _ us hl => match us, hl with | [_, _], _ => rfl), def_P (k := 1) F sc__law_rows rfl fun cdv A outer s H E hr => ?_⟩
  have tk := takes_of (X := cxG P w K mg base ["_law_net", "_law_lines", "_law_now", "_law_layer", "_law_ahead", "_law_low", "_law_high", "_law_line"] "_law_rows" s__law_rows fa cdv A outer s H E) rfl rfl rfl rfl
  have hp : PassesOwn (model P w) _ _ (cxG P w K mg base ["_law_net", "_law_lines", "_law_now", "_law_layer", "_law_ahead", "_law_low", "_law_high", "_law_line"] "_law_rows" s__law_rows fa cdv A outer s H E).xe := passes_of rfl
  exact (gs_cons (gs_lc (own := [("_law_line", 7)]) (t := .nm 7) (i := 2) (c := true) (by decide) (ps_setLc rfl nd rfl rfl (sw_true rfl rfl rfl (by decide +kernel)) (own := [("_law_line", 7)]) (gi_r1 rfl B.range (ge_var (pv 1))) (blkOk_by (own := [("_law_line", 7)]) (by kernel_rfl)) (fun _ _ _ _ _ => (pg_name (i := 7) nd rfl (by first | exact .inl rfl | exact .inr rfl))) (fun _ _ _ _ _ => gts_nil) (fun _ _ _ _ _ => (ge_lst false (ga_cons (ge_var (pv 7)) ga_nil))))) (gs_cons (gs_for (it := itSeq (xVar 0)) (b := b__law_rows_1) (t := .nm 3) hp rfl (gi_seq (ge_var (pv 0))) (pg_name (i := 3) nd rfl (by first | exact .inl rfl | exact .inr rfl)) (gs_cons (gs_asg (t := .nm 4) (ps_set nd rfl (by first | exact .inl rfl | exact .inr rfl) (ge_callTy call_list_of (cd_list false) rfl B.list (by decide +kernel) (ga_cons (ge_var (pv 2)) ga_nil)))) (gs_one (gs_for (it := itSeq (xVar 3)) (b := b__law_rows_0) (t := .tp [5, 6]) hp rfl (gi_seq (ge_var (pv 3))) (pg_tup rfl (pgs_cons (pg_name (i := 5) nd rfl (by first | exact .inl rfl | exact .inr rfl)) (pgs_cons (pg_name (i := 6) nd rfl (by first | exact .inl rfl | exact .inr rfl)) pgs_nil))) (gs_one (gs_setIx (ps_asg (ge_op op_addA (od_add false) (ge_ix ix_seq od_ix (ge_var (pv 4)) (ge_var (pv 5)) (fun _ _ => rfl)) (ge_ix ix_seq od_ix (ge_var (pv 4)) (ge_var (pv 6)) (fun _ _ => rfl))) (pg_sub (ge_var (pv 2)) (ge_var (pv 6)) set_list)))))))) (gs_one (gs_ret (ge_var (pv 2))))))
abbrev s_law : Stmt := top 40
theorem sc_law : FnScope ["_law_script", "_law_lines", "_law_cell", "_law_net", "_law_many", "_law_line", "_law_layer"] ["_law_script"] (defScope s_law) := ⟨rfl, rfl, rfl, by decide +kernel, rfl, by decide +kernel, by decide +kernel⟩
structure D_law (P : Program) (w : World) (K : PySem.W.Frag) (mg : Str → Option Value) (base : Heap) (ct : Ct) : Prop where
  _law_cell_at : Dp' P w K mg base 2 "_law_cell_at" ["_law_script", "_law_k"] (spP K ct 2 f__law_cell_at)
  _law_lines_by : Dp' P w K mg base 2 "_law_lines_by" ["_law_cell"] (spP K ct 1 f__law_lines_by)
  _law_made : Dp' P w K mg base 14 "_law_made" ["_law_which", "_law_cell", "_law_lines"] (spP K ct 3 f__law_made)
  _law_rows : Dp' P w K mg base 2 "_law_rows" ["_law_net", "_law_lines"] (spP K ct 2 f__law_rows)
  joints : Dp' P w K mg base 8 "joints" ["lines", "net"] (spP K ct 2 f_joints)
  _law_whole : Dp' P w K mg base 2 "_law_whole" ["_law_found"] (spP K ct 1 f__law_whole)
  u_ : True
def e_law_0 : En → M D := xUn (opRg false false) (xBin (opAdd false) (xVar 5) (xC (.int 1)))
def m_law_0 : En → M D := xLcN false (itR1 (xVar 1)) [5] (.nm 5) (bYes) e_law_0
def e_law_1 : En → M D := xCall (opList false) (aCons (xVar 6) (aNil))
def m_law_1 : En → M D := xLcN false (itSeq (xVar 3)) [6] (.nm 6) (bYes) e_law_1
def e_law_2 : En → M D := xCall opLen (aCons (xVar 6) (aNil))
def m_law_2 : En → M D := xLcN false (itSeq (xVar 3)) [6] (.nm 6) (bYes) e_law_2
def r_law_6 : En → M Fl := sRet (xBin opGe (xBin (opAdd false) (xCall opLen (aCons (xVar 3) (aNil))) (xVar 4)) (xBin opSub (xBin (opMulX false) (xC (.int 2)) (xVar 1)) (xC (.int 2))))
def r_law_5 : En → M Fl := sSeq (sIf (bOr (bNot (bVal (xCallP f__law_whole (aCons (xVar 4) (aNil))))) (bVal (xBin (opEq false) (xVar 4) (xCall opSum (aCons (m_law_2) (aNil)))))) (sRet (xC (.bl false))) (sSkip)) r_law_6
def r_law_4 : En → M Fl := sSeq (sAsg (xCallP f_joints (aCons (xVar 1) (aCons (m_law_1) (aNil)))) (.nm 4)) r_law_5
def r_law_3 : En → M Fl := sSeq (sIf (bVal (xBin (opEq false) (xCallP f__law_rows (aCons (xVar 3) (aCons (xVar 1) (aNil)))) (m_law_0))) (sRet (xC (.bl false))) (sSkip)) r_law_4
def r_law_2 : En → M Fl := sSeq (sAsg (xCallP f__law_made (aCons (xBin opMod (xVar 2) (xC (.int 8))) (aCons (xBin opMod (xBin (opMulX false) (xCallP f__law_cell_at (aCons (xVar 0) (aCons (xC (.int 1)) (aNil)))) (xC (.int 48271))) (xC (.int 2147483647))) (aCons (xVar 1) (aNil))))) (.nm 3)) r_law_3
def r_law_1 : En → M Fl := sSeq (sAsg (xBin opMod (xBin (opMulX false) (xCallP f__law_cell_at (aCons (xVar 0) (aCons (xC (.int 2)) (aNil)))) (xC (.int 48271))) (xC (.int 2147483647))) (.nm 2)) r_law_2
def c_law : En → M Fl := sSeq (sAsg (xCallP f__law_lines_by (aCons (xCallP f__law_cell_at (aCons (xVar 0) (aCons (xC (.int 0)) (aNil)))) (aNil))) (.nm 1)) r_law_1
def f_law : List D → Rp := runP c_law 7
theorem F_law (a0 : D) : f_law [a0] = kP (c_law [some a0, none, none, none, none, none, none] []) := rfl
theorem d_law {fa : Addr} {fd : FuncData} (F : FunG K "law" s_law fa fd) (B : Bt K mg ct) (D : D_law P w K mg base ct) : FnP P w K mg base 15 fa fd ["_law_script"] (spP K ct 1 f_law) := by
  have nd := sc_law.nd
  refine def_P (k := 14) F sc_law rfl fun cdv A outer s H E hr => ?_
  have tk := takes_of (X := cxG P w K mg base ["_law_script", "_law_lines", "_law_cell", "_law_net", "_law_many", "_law_line", "_law_layer"] "law" s_law fa cdv A outer s H E) rfl rfl rfl rfl
  exact (gs_cons (gs_asg (t := .nm 1) (ps_set nd rfl (by first | exact .inl rfl | exact .inr rfl) (gc_P D._law_lines_by hr (by decide) tk rfl (an_cons an_nil) (ga_cons (gc_P D._law_cell_at hr (by decide) tk rfl (an_cons (an_cons an_nil)) (ga_cons (ge_var (pv 0)) (ga_cons ge_int ga_nil))) ga_nil)))) (gs_cons (gs_asg (t := .nm 2) (ps_set nd rfl (by first | exact .inl rfl | exact .inr rfl) (ge_op op_mod od_mod (ge_op op_mulX (od_mulX false) (gc_P D._law_cell_at hr (by decide) tk rfl (an_cons (an_cons an_nil)) (ga_cons (ge_var (pv 0)) (ga_cons ge_int ga_nil))) ge_int) ge_int))) (gs_cons (gs_asg (t := .nm 3) (ps_set nd rfl (by first | exact .inl rfl | exact .inr rfl) (gc_P D._law_made hr (by decide) tk rfl (an_cons (an_cons (an_cons an_nil))) (ga_cons (ge_op op_mod od_mod (ge_var (pv 2)) ge_int) (ga_cons (ge_op op_mod od_mod (ge_op op_mulX (od_mulX false) (gc_P D._law_cell_at hr (by decide) tk rfl (an_cons (an_cons an_nil)) (ga_cons (ge_var (pv 0)) (ga_cons ge_int ga_nil))) ge_int) ge_int) (ga_cons (ge_var (pv 1)) ga_nil)))))) (gs_cons (gs_if (gt_cmp (op_neD hr.units) od_ne (gc_P D._law_rows hr (by decide) tk rfl (an_cons (an_cons an_nil)) (ga_cons (ge_var (pv 3)) (ga_cons (ge_var (pv 1)) ga_nil))) (ge_lc false rfl nd (own := [("_law_line", 5)]) (t := .nm 5) (gi_r1 rfl B.range (ge_var (pv 1))) (blkOk_by (own := [("_law_line", 5)]) (by kernel_rfl)) (by decide) (fun _ _ _ _ _ => (pg_name (i := 5) nd rfl (by first | exact .inl rfl | exact .inr rfl))) (fun _ _ _ _ _ => gts_nil) (fun _ _ _ _ _ => (ge_listRg false rfl rfl B.list rfl B.range (ge_op op_addA (od_add false) (ge_var (pv 5)) ge_int)))) (nomark _)) (gs_one (gs_ret ge_bl)) gs_nil) (gs_cons (gs_asg (t := .nm 4) (ps_set nd rfl (by first | exact .inl rfl | exact .inr rfl) (gc_P D.joints hr (by decide) tk rfl (an_cons (an_cons an_nil)) (ga_cons (ge_var (pv 1)) (ga_cons (ge_lc false rfl nd (own := [("_law_layer", 6)]) (t := .nm 6) (gi_seq (ge_var (pv 3))) (blkOk_by (own := [("_law_layer", 6)]) (by kernel_rfl)) (by decide) (fun _ _ _ _ _ => (pg_name (i := 6) nd rfl (by first | exact .inl rfl | exact .inr rfl))) (fun _ _ _ _ _ => gts_nil) (fun _ _ _ _ _ => (ge_callTy call_list_of (cd_list false) rfl B.list (by decide +kernel) (ga_cons (ge_var (pv 6)) ga_nil)))) ga_nil))))) (gs_cons (gs_if (PW.pt (gw_or (gt_not (gt_val (gc_P D._law_whole hr (by decide) tk rfl (an_cons an_nil) (ga_cons (ge_var (pv 4)) ga_nil)))) (gw_or1 (gt_cmp (op_neD hr.units) od_ne (ge_var (pv 4)) (ge_callB (cr_sum rfl) cd_sum rfl B.sum (by decide +kernel) (ga_cons (ge_lc false rfl nd (own := [("_law_layer", 6)]) (t := .nm 6) (gi_seq (ge_var (pv 3))) (blkOk_by (own := [("_law_layer", 6)]) (by kernel_rfl)) (by decide) (fun _ _ _ _ _ => (pg_name (i := 6) nd rfl (by first | exact .inl rfl | exact .inr rfl))) (fun _ _ _ _ _ => gts_nil) (fun _ _ _ _ _ => (ge_callB call_len cd_len rfl B.len PySem.boot_len (ga_cons (ge_var (pv 6)) ga_nil)))) ga_nil)) (nomark _))))) (gs_one (gs_ret ge_bl)) gs_nil) (gs_one (gs_ret (ge_cmp op_ge od_ge (ge_op op_addA (od_add false) (ge_callB call_len cd_len rfl B.len PySem.boot_len (ga_cons (ge_var (pv 3)) ga_nil)) (ge_var (pv 4))) (ge_op op_sub od_sub (ge_op op_mulX (od_mulX false) ge_int (ge_var (pv 1))) ge_int) (nomark _))))))))))
end
end LK
namespace LK
open L2 G PySem PySem.Spec PyProof.Rows
/-! ### the law's laying of one joint -/
theorem while_f {t : En → M Bool} {b : En → M Fl} {n : Nat} {env : En} {cs cs1 : Cs} (h : t env cs = .ok false cs1) : sWhile t b (n + 1) env cs = .ok (.nx env) cs1 := by
  show M.bnd (t env) _ cs = _
  rw [M.bnd_ok h]
  rfl
theorem while_t {t : En → M Bool} {b : En → M Fl} {n : Nat} {env e : En} {cs cs1 cs2 : Cs} (h : t env cs = .ok true cs1) (hb : b env cs1 = .ok (.nx e) cs2) : sWhile t b (n + 1) env cs = sWhile t b n e cs2 := by
  show M.bnd (t env) _ cs = _
  rw [M.bnd_ok h]
  show M.bnd (b env) _ cs1 = _
  rw [M.bnd_ok hb]
theorem runM_nx {c : En → M Fl} {k : Nat} {ds : List D} {cs cs1 : Cs} {e : En} (h : c (startE k ds) cs = .ok (.nx e) cs1) : runM c k ds cs = .ok .non cs1 := by
  show M.bnd (c (startE k ds)) _ cs = _
  rw [M.bnd_ok h]
  rfl
theorem setIx_ok {v o i : En → M D} {env : En} {cs cs1 cs2 cs3 : Cs} {y : D} {a : Nat} {j : Nat} {xs : List D} (h1 : v env cs = .ok y cs1) (h2 : o env cs1 = .ok (.ref a) cs2) (h3 : i env cs2 = .ok (.int (j : Nat)) cs3) (hc : cs3[a]? = some xs) (hj : j < xs.length) : sSetIx v o i env cs = .ok (.nx env) (cs3.set a (xs.set j y)) := by
  show M.bnd (v env) _ cs = _
  rw [M.bnd_ok h1, M.bnd_ok h2, M.bnd_ok h3]
  show (match cs3[a]? with
    | some xs => (match ixN xs.length (j : Int) with
      | some n => Rs.ok (Fl.nx env) (cs3.set a (xs.set n y))
      | none => .no)
    | none => .no) = _
  rw [hc]
  show (match ixN xs.length (j : Int) with
    | some n => Rs.ok (Fl.nx env) (cs3.set a (xs.set n y))
    | none => .no) = _
  have e : ixN xs.length (j : Int) = some j := by
    unfold ixN
    rw [if_pos (by omega), if_pos (by omega), Int.toNat_natCast]
  rw [e]
theorem ix_refN {r j : Nat} {xs : List D} {cs : Cs} {y : D} (hc : cs[r]? = some xs) (h : xs[j]? = some y) : opIx (.ref r) (.int (j : Nat)) cs = .ok y cs := by
  show (match seqOf cs (.ref r) with
    | some xs => M.ofO (atI xs (j : Int)) cs
    | none => .no) = _
  rw [show seqOf cs (.ref r) = some xs from hc]
  show M.ofO (atI xs (j : Int)) cs = _
  have hl : j < xs.length := (List.getElem?_eq_some_iff.mp h).1
  unfold atI ixN
  rw [if_pos (by omega), if_pos (by omega), Option.bind_some, Int.toNat_natCast, h]
  rfl
def jtD (p : Tell.Jt) : D := .tup [.int p.1, .int p.2]
def natD (x : Nat) : D := .int x
/-- the law's books stand in cells f (found), d (done), r (read), the layers in cells is -/
structure Rel (f d r : Nat) (cs : Cs) (is : List Nat) (s : Tell.S) : Prop where
  fc : cs[f]? = some (is.map D.ref)
  il : is.length = s.found.length
  lc : ∀ (j i : Nat) (L : List Tell.Jt), is[j]? = some i → s.found[j]? = some L → cs[i]? = some (L.map jtD)
  dc : cs[d]? = some (s.done.map natD)
  rc : cs[r]? = some (s.read.map natD)
  nd : is.Nodup
  nf : f ∉ is
  nD : d ∉ is
  nR : r ∉ is
  fd : f ≠ d
  fr : f ≠ r
  dr : d ≠ r
theorem getD_at {xs : List Nat} {x : Nat} (h : x < xs.length) : (xs.map natD)[x]? = some (.int (xs.getD x 0 : Nat)) := by
  rw [List.getElem?_map, List.getD_eq_getElem?_getD, List.getElem?_eq_getElem h]
  rfl
theorem set_map {xs : List Nat} {x y : Nat} : (xs.map natD).set x (.int (y : Nat)) = (xs.set x y).map natD := by
  rw [List.map_set]
  rfl
theorem max3_nat (a b c : Nat) : (if (b : Int) > a then (if (c : Int) > b then (c : Int) else b) else (if (c : Int) > a then (c : Int) else a)) = ((max (max a b) c : Nat) : Int) := by
  split <;> split <;> omega
theorem max2_nat (a b : Nat) : (if (b : Int) > a then (b : Int) else a) = ((max a b : Nat) : Int) := by
  split <;> omega
theorem place_ok {n f d r : Nat} {cs : Cs} {is : List Nat} {s : Tell.S} (R : Rel f d r cs is s) (I : Tell.Inv n s) (hn : n ≤ 1000) {low high : Nat} (hl : low < n) (hh : high < n) (hs : s.found.length ≤ 1000) (hL : ∀ L ∈ s.found, L.length ≤ 1000) :
    ∃ cs' is', f__law_place [.ref f, .int low, .int high, .ref d, .ref r] cs = .ok .non cs' ∧ Rel f d r cs' is' (Tell.place s low high) ∧ cs.length ≤ cs'.length ∧
      (∀ i, i < cs.length → i ≠ f → i ≠ d → i ≠ r → i ∉ is → cs'[i]? = cs[i]? ∧ i ∉ is') := by
  have hle := Tell.at_le I low high
  have g1 := getD_at (xs := s.done) (x := low) (by rw [I.dl]; exact hl)
  have g2 := getD_at (xs := s.done) (x := high) (by rw [I.dl]; exact hh)
  have g3 := getD_at (xs := s.read) (x := high) (by rw [I.rl]; exact hh)
  have g4 := getD_at (xs := s.read) (x := low) (by rw [I.rl]; exact hl)
  have fl : f < cs.length := (List.getElem?_eq_some_iff.mp R.fc).1
  have dl : d < cs.length := (List.getElem?_eq_some_iff.mp R.dc).1
  have rl : r < cs.length := (List.getElem?_eq_some_iff.mp R.rc).1
  have e1 : (xCall opMax3 (aCons (xBin opIx (xVar 3) (xVar 1)) (aCons (xBin opIx (xVar 3) (xVar 2)) (aCons (xBin opIx (xVar 4) (xVar 2)) (aNil))))) (startE 6 [.ref f, .int low, .int high, .ref d, .ref r]) cs = .ok (.int (s.at_ low high : Nat)) cs := by
    refine (call_ok (cons_ok ((bin_ok (var_at rfl) (var_at rfl)).trans (ix_refN R.dc g1)) (cons_ok ((bin_ok (var_at rfl) (var_at rfl)).trans (ix_refN R.dc g2)) (cons_ok ((bin_ok (var_at rfl) (var_at rfl)).trans (ix_refN R.rc g3)) rfl)))).trans ?_
    show (Rs.ok (D.int _) cs : Rs D) = _
    rw [max3_nat]
    rfl
  -- the env behind the first row
  have len : ∀ (c : Cs) (js : List Nat), c[f]? = some (js.map D.ref) → (xCall opLen (aCons (xVar 0) aNil)) [some (.ref f), some (.int low), some (.int high), some (.ref d), some (.ref r), some (.int (s.at_ low high : Nat))] c = .ok (.int (js.length : Nat)) c := fun c js hc => by
    rw [call_ok (cons_ok (var_at rfl) rfl)]
    show (match c[f]? with
      | some xs => Rs.ok (D.int (xs.length : Nat)) c
      | none => .no) = _
    rw [hc]
    show Rs.ok (D.int ((js.map D.ref).length : Nat)) c = _
    rw [List.length_map]
  have test : ∀ (c : Cs) (js : List Nat), c[f]? = some (js.map D.ref) → (bVal (xBin opLe (xCall opLen (aCons (xVar 0) (aNil))) (xVar 5))) [some (.ref f), some (.int low), some (.int high), some (.ref d), some (.ref r), some (.int (s.at_ low high : Nat))] c = .ok (decide (js.length ≤ s.at_ low high)) c := fun c js hc => by
    refine val_b ?_
    rw [bin_ok (len c js hc) (var_at rfl)]
    show (Rs.ok (D.bl (decide ((js.length : Int) ≤ (s.at_ low high : Nat)))) c : Rs D) = _
    congr 2
    exact decide_eq_decide.mpr (by omega)
  -- a layer for it
  obtain ⟨cs1, is1, L0, hw, R1, hat, hcs, hfr⟩ : ∃ (cs1 : Cs) (is1 : List Nat) (L0 : List Tell.Jt), sWhile (bVal (xBin opLe (xCall opLen (aCons (xVar 0) (aNil))) (xVar 5))) (sDrop (xApp (xVar 0) (xLst true (aNil)))) 3 [some (.ref f), some (.int low), some (.int high), some (.ref d), some (.ref r), some (.int (s.at_ low high : Nat))] cs = .ok (.nx [some (.ref f), some (.int low), some (.int high), some (.ref d), some (.ref r), some (.int (s.at_ low high : Nat))]) cs1 ∧
      (Rel f d r cs1 is1 ⟨if s.at_ low high < s.found.length then s.found else s.found ++ [[]], s.done, s.read⟩) ∧ (if s.at_ low high < s.found.length then s.found else s.found ++ [[]])[s.at_ low high]? = some L0 ∧ cs.length ≤ cs1.length ∧ (∀ i, i < cs.length → i ≠ f → i ∉ is → cs1[i]? = cs[i]? ∧ i ∉ is1) := by
    by_cases hlt : s.at_ low high < s.found.length
    · have t1 := test cs is R.fc
      rw [decide_eq_false (by rw [R.il]; omega)] at t1
      refine ⟨cs, is, s.found[s.at_ low high], while_f t1, ?_, by rw [if_pos hlt, List.getElem?_eq_getElem hlt], Nat.le_refl _, fun i _ _ hi => ⟨rfl, hi⟩⟩
      rw [if_pos hlt]
      exact R
    · have hat : s.at_ low high = s.found.length := by omega
      have t1 := test cs is R.fc
      rw [decide_eq_true (by rw [R.il]; omega)] at t1
      have ap : xApp (xVar 0) (xLst true aNil) [some (.ref f), some (.int low), some (.int high), some (.ref d), some (.ref r), some (.int (s.at_ low high : Nat))] cs = .ok .non ((cs ++ [[]]).set f (is.map D.ref ++ [D.ref cs.length])) :=
        app_ok (cs1 := cs) (cs2 := cs ++ [[]]) (var_at rfl) rfl (by rw [List.getElem?_append_left fl]; exact R.fc) (by rw [List.length_map, R.il]; omega)
      have fc1 : ((cs ++ [[]]).set f (is.map D.ref ++ [D.ref cs.length]))[f]? = some ((is ++ [cs.length]).map D.ref) := by
        rw [List.getElem?_set_self (by rw [List.length_append]; omega), List.map_append]
        rfl
      have t2 := test _ _ fc1
      rw [decide_eq_false (by rw [List.length_append, R.il]; simp; omega)] at t2
      have isl : ∀ i ∈ is, i < cs.length := fun i hi => by
        obtain ⟨j, hj⟩ := List.mem_iff_getElem?.mp hi
        have hjl : j < s.found.length := by
          rw [← R.il]
          exact (List.getElem?_eq_some_iff.mp hj).1
        exact (List.getElem?_eq_some_iff.mp (R.lc j i _ hj (List.getElem?_eq_getElem hjl))).1
      have old : ∀ i, i < cs.length → i ≠ f → ((cs ++ [[]]).set f (is.map D.ref ++ [D.ref cs.length]))[i]? = cs[i]? := fun i hi hf => by
        rw [List.getElem?_set_ne (Ne.symm hf), List.getElem?_append_left hi]
      refine ⟨_, is ++ [cs.length], [], (while_t t1 (drop_nx ap)).trans (while_f t2), ?_, by rw [if_neg hlt, hat]; simp, by rw [List.length_set, List.length_append]; omega, fun i hi hf hm => ⟨old i hi hf, fun z => (List.mem_append.mp z).elim hm fun z => by rw [List.mem_singleton.mp z] at hi; omega⟩⟩
      rw [if_neg hlt]
      refine ⟨fc1, by rw [List.length_append, List.length_append, R.il]; rfl, fun j i L hj hL2 => ?_, by rw [old d dl (Ne.symm R.fd)]; exact R.dc, by rw [old r rl (Ne.symm R.fr)]; exact R.rc, ?_, ?_, ?_, ?_, R.fd, R.fr, R.dr⟩
      · by_cases hjl : j < is.length
        · rw [List.getElem?_append_left hjl] at hj
          rw [List.getElem?_append_left (by rw [← R.il]; exact hjl)] at hL2
          rw [old i (isl i (List.mem_of_getElem? hj)) fun e => R.nf (by rw [← e]; exact List.mem_of_getElem? hj)]
          exact R.lc j i L hj hL2
        · rw [List.getElem?_append_right (by omega)] at hj
          rw [List.getElem?_append_right (by rw [← R.il]; omega), ← R.il] at hL2
          have e0 : j - is.length = 0 := by
            cases q : j - is.length with
            | zero => rfl
            | succ k =>
              rw [q] at hj
              simp at hj
          rw [e0] at hj hL2
          have ei : cs.length = i := by simpa using hj
          have eL : [] = L := by simpa using hL2
          rw [← ei, ← eL, List.getElem?_set_ne (by omega), List.getElem?_append_right (Nat.le_refl _), Nat.sub_self]
          rfl
      · refine List.nodup_append.mpr ⟨R.nd, List.nodup_cons.mpr ⟨List.not_mem_nil, List.nodup_nil⟩, fun a ha b hb e => ?_⟩
        rw [List.mem_singleton.mp hb] at e
        have := isl a ha
        omega
      · exact fun z => (List.mem_append.mp z).elim R.nf fun z => by rw [List.mem_singleton.mp z] at fl; omega
      · exact fun z => (List.mem_append.mp z).elim R.nD fun z => by rw [List.mem_singleton.mp z] at dl; omega
      · exact fun z => (List.mem_append.mp z).elim R.nR fun z => by rw [List.mem_singleton.mp z] at rl; omega
  -- the joint
  have hi1 : is1[s.at_ low high]? = some (is1[s.at_ low high]'(by rw [R1.il]; exact (List.getElem?_eq_some_iff.mp hat).1)) := List.getElem?_eq_getElem _
  generalize hk : is1[s.at_ low high]'(by rw [R1.il]; exact (List.getElem?_eq_some_iff.mp hat).1) = k at hi1
  have kc := R1.lc _ k L0 hi1 hat
  have kl : k < cs1.length := (List.getElem?_eq_some_iff.mp kc).1
  have km : k ∈ is1 := List.mem_of_getElem? hi1
  have kf : k ≠ f := fun e => R1.nf (by rw [← e]; exact km)
  have kd : k ≠ d := fun e => R1.nD (by rw [← e]; exact km)
  have kr : k ≠ r := fun e => R1.nR (by rw [← e]; exact km)
  have hL0 : L0.length ≤ 1000 := by
    by_cases hlt : s.at_ low high < s.found.length
    · rw [if_pos hlt] at hat
      exact hL L0 (List.mem_of_getElem? hat)
    · rw [if_neg hlt] at hat
      rcases List.mem_append.mp (List.mem_of_getElem? hat) with z | z
      · exact hL L0 z
      · rw [List.mem_singleton.mp z]
        exact Nat.zero_le _
  have e3 : (sDrop (xApp (xBin opIx (xVar 0) (xVar 5)) (xTup (aCons (xVar 2) (aCons (xVar 1) (aNil)))))) [some (.ref f), some (.int low), some (.int high), some (.ref d), some (.ref r), some (.int (s.at_ low high : Nat))] cs1 = .ok (.nx [some (.ref f), some (.int low), some (.int high), some (.ref d), some (.ref r), some (.int (s.at_ low high : Nat))]) (cs1.set k (L0.map jtD ++ [jtD (high, low)])) :=
    drop_nx (app_ok (cs1 := cs1) (cs2 := cs1) (y := jtD (high, low)) ((bin_ok (var_at rfl) (var_at rfl)).trans (ix_refN R1.fc (by rw [List.getElem?_map, hi1]; rfl))) rfl kc (by rw [List.length_map]; omega))
  have rc2 : (cs1.set k (L0.map jtD ++ [jtD (high, low)]))[r]? = some (s.read.map natD) := by
    rw [List.getElem?_set_ne kr]
    exact R1.rc
  have rl1 : r < cs1.length := by omega
  have dl1 : d < cs1.length := by omega
  have fl1 : f < cs1.length := by omega
  have e4 : (sSetIx (xCall opMax2 (aCons (xBin opIx (xVar 4) (xVar 1)) (aCons (xVar 5) (aNil)))) (xVar 4) (xVar 1)) [some (.ref f), some (.int low), some (.int high), some (.ref d), some (.ref r), some (.int (s.at_ low high : Nat))] (cs1.set k (L0.map jtD ++ [jtD (high, low)])) = .ok (.nx [some (.ref f), some (.int low), some (.int high), some (.ref d), some (.ref r), some (.int (s.at_ low high : Nat))]) ((cs1.set k (L0.map jtD ++ [jtD (high, low)])).set r ((s.read.map natD).set low (.int (max (s.read.getD low 0) (s.at_ low high) : Nat)))) := by
    refine setIx_ok (j := low) ((call_ok (cons_ok ((bin_ok (var_at rfl) (var_at rfl)).trans (ix_refN rc2 g4)) (cons_ok (var_at rfl) rfl))).trans ?_) (var_at rfl) (var_at rfl) rc2 (by rw [List.length_map, I.rl]; exact hl)
    show (Rs.ok (D.int _) _ : Rs D) = _
    rw [max2_nat]
  have dc3 : ((cs1.set k (L0.map jtD ++ [jtD (high, low)])).set r ((s.read.map natD).set low (.int (max (s.read.getD low 0) (s.at_ low high) : Nat))))[d]? = some (s.done.map natD) := by
    rw [List.getElem?_set_ne (Ne.symm R.dr), List.getElem?_set_ne kd]
    exact R1.dc
  have e5 : (sSetIx (xBin (opAdd false) (xVar 5) (xC (.int 1))) (xVar 3) (xVar 2)) [some (.ref f), some (.int low), some (.int high), some (.ref d), some (.ref r), some (.int (s.at_ low high : Nat))] ((cs1.set k (L0.map jtD ++ [jtD (high, low)])).set r ((s.read.map natD).set low (.int (max (s.read.getD low 0) (s.at_ low high) : Nat)))) = .ok (.nx [some (.ref f), some (.int low), some (.int high), some (.ref d), some (.ref r), some (.int (s.at_ low high : Nat))]) (((cs1.set k (L0.map jtD ++ [jtD (high, low)])).set r ((s.read.map natD).set low (.int (max (s.read.getD low 0) (s.at_ low high) : Nat)))).set d ((s.done.map natD).set high (.int ((s.at_ low high + 1 : Nat) : Int)))) :=
    setIx_ok (j := high) ((bin_ok (var_at rfl) rfl).trans rfl) (var_at rfl) (var_at rfl) dc3 (by rw [List.length_map, I.dl]; exact hh)
  refine ⟨_, is1, runM_nx ((seq_nx (asg_nm e1)).trans ((seq_nx hw).trans ((seq_nx e3).trans ((seq_nx e4).trans e5)))), ?_, by rw [List.length_set, List.length_set, List.length_set]; exact hcs, fun i hi hf hd hr hm => ?_⟩
  · refine ⟨?_, ?_, fun j i L hj hL2 => ?_, ?_, ?_, R1.nd, R1.nf, R1.nD, R1.nR, R.fd, R.fr, R.dr⟩
    · rw [List.getElem?_set_ne (Ne.symm R.fd), List.getElem?_set_ne (Ne.symm R.fr), List.getElem?_set_ne kf]
      exact R1.fc
    · have q := R1.il
      show is1.length = (Tell.put s.found (s.at_ low high) (high, low)).length
      rw [Tell.put_len hle, q]
      dsimp only
      split
      · omega
      · rw [List.length_append, List.length_cons, List.length_nil]
        omega
    · have im : i ∈ is1 := List.mem_of_getElem? hj
      have i1 : i ≠ d := fun e => R1.nD (by rw [← e]; exact im)
      have i2 : i ≠ r := fun e => R1.nR (by rw [← e]; exact im)
      rw [List.getElem?_set_ne (Ne.symm i1), List.getElem?_set_ne (Ne.symm i2)]
      have hL3 : (Tell.put s.found (s.at_ low high) (high, low))[j]? = some L := hL2
      rw [Tell.put_get j hle] at hL3
      by_cases hj2 : j = s.at_ low high
      · subst hj2
        rw [hi1] at hj
        cases hj
        rw [List.getElem?_set_self kl]
        rw [if_pos rfl] at hL3
        have eL : (s.found[s.at_ low high]?).getD [] = L0 := by
          by_cases hlt : s.at_ low high < s.found.length
          · rw [if_pos hlt] at hat
            rw [hat]
            rfl
          · rw [if_neg hlt, List.getElem?_append_right (by omega), show s.at_ low high - s.found.length = 0 by omega] at hat
            have e0 : [] = L0 := by simpa using hat
            rw [List.getElem?_eq_none (by omega), ← e0]
            rfl
        rw [eL] at hL3
        rw [← Option.some.inj hL3, List.map_append]
        rfl
      · rw [if_neg hj2] at hL3
        have ne : i ≠ k := fun e => hj2 (by
          rw [e] at hj
          obtain ⟨z1, y1⟩ := List.getElem?_eq_some_iff.mp hj
          obtain ⟨z2, y2⟩ := List.getElem?_eq_some_iff.mp hi1
          exact (List.getElem_inj R1.nd).mp (y1.trans y2.symm))
        rw [List.getElem?_set_ne (Ne.symm ne)]
        refine R1.lc j i L hj ?_
        dsimp only
        split
        · exact hL3
        · rw [List.getElem?_append_left (List.getElem?_eq_some_iff.mp hL3).1]
          exact hL3
    · rw [List.getElem?_set_self (by rw [List.length_set, List.length_set]; exact dl1)]
      exact congrArg some set_map
    · rw [List.getElem?_set_ne R.dr, List.getElem?_set_self (by rw [List.length_set]; exact rl1)]
      exact congrArg some set_map
  · obtain ⟨h1, h2⟩ := hfr i hi hf hm
    rw [List.getElem?_set_ne (Ne.symm hd), List.getElem?_set_ne (Ne.symm hr), List.getElem?_set_ne fun e => h2 (by rw [← e]; exact km)]
    exact ⟨h1, h2⟩
end LK
namespace LK
open L2 G PySem PySem.Spec PyProof.Rows
theorem nodup_len : ∀ (n : Nat) {l : List Nat}, l.Nodup → (∀ x ∈ l, x < n) → l.length ≤ n
  | 0, l, _, h => by
    cases l with
    | nil => exact Nat.le_refl _
    | cons x r => exact absurd (h x List.mem_cons_self) (Nat.not_lt_zero _)
  | n + 1, l, nd, h => by
    by_cases hm : n ∈ l
    · have e := List.length_erase_of_mem hm
      have := nodup_len n (l := l.erase n) (nd.erase n) fun x hx => by
        have hx2 := List.mem_of_mem_erase hx
        have hne : x ≠ n := fun e => by
          rw [e] at hx
          exact (nd.not_mem_erase) hx
        have := h x hx2
        omega
      have := List.length_pos_of_mem hm
      omega
    · have := nodup_len n nd fun x hx => by
        have : x ≠ n := fun e => hm (by rw [← e]; exact hx)
        have := h x hx
        omega
      omega
theorem lay_len {n : Nat} {s : Tell.S} (I : Tell.Inv n s) : ∀ L ∈ s.found, L.length ≤ n := fun L hL => by
  have := nodup_len n (I.nd L hL) fun x hx => by
    obtain ⟨q, hq, rfl⟩ := List.mem_map.mp hx
    exact (I.rg L hL q hq).2
  rwa [List.length_map] at this
/-- a while loop that ends -/
theorem while_inv {t : En → M Bool} {b : En → M Fl} (I : Nat → En → Cs → Prop) (N : Nat) (hs : ∀ j env cs, I j env cs → ∃ k, t env cs = .ok k cs ∧ (k = true → j < N ∧ ∃ j' e' cs', j < j' ∧ b env cs = .ok (.nx e') cs' ∧ I j' e' cs')) :
    ∀ (fuel j : Nat) (env : En) (cs : Cs), I j env cs → N + 1 ≤ fuel + j → 0 < fuel → ∃ j' e' cs', sWhile t b fuel env cs = .ok (.nx e') cs' ∧ I j' e' cs' ∧ t e' cs' = .ok false cs'
  | 0, _, _, _, _, _, h => absurd h (Nat.lt_irrefl _)
  | fuel + 1, j, env, cs, hI, hN, _ => by
    obtain ⟨k, ht, hk⟩ := hs j env cs hI
    cases k with
    | false => exact ⟨j, env, cs, while_f ht, hI, ht⟩
    | true =>
      obtain ⟨hj, j', e', cs', hlt, hb, hI'⟩ := hk rfl
      obtain ⟨j2, e2, cs2, h1, h2, h3⟩ := while_inv I N hs fuel j' e' cs' hI' (by omega) (by omega)
      exact ⟨j2, e2, cs2, (while_t ht hb).trans h1, h2, h3⟩
def lfD (q : Nat × Nat) : D := .tup [.int q.1, .int q.2]
/-- what a turn holds: the books, the left ones in cell l, the fewer in cell w, the lines -/
structure Tr (f d r l w : Nat) (cs : Cs) (is : List Nat) (s : Tell.S) (left : List (Nat × Nat)) (fewer : List Nat) (ln : D) (lines : List Nat) : Prop where
  R : Rel f d r cs is s
  lc : cs[l]? = some (left.map lfD)
  wc : cs[w]? = some (fewer.map natD)
  ls : seqOf cs ln = some (lines.map natD)
  lf : l ≠ f ∧ l ≠ d ∧ l ≠ r ∧ l ∉ is
  wf : w ≠ f ∧ w ≠ d ∧ w ≠ r ∧ w ∉ is
  lw : l ≠ w
  na : ∀ a, ln = .ref a → a ≠ f ∧ a ≠ d ∧ a ≠ r ∧ a ∉ is ∧ a ≠ l ∧ a ≠ w
theorem seqOf_set {cs : Cs} {ln : D} {i : Nat} {x : List D} {ys : List D} (h : seqOf cs ln = some ys) (hn : ∀ a, ln = .ref a → a ≠ i) : seqOf (cs.set i x) ln = some ys := by
  cases ln with
  | ref a =>
    show (cs.set i x)[a]? = some ys
    rw [List.getElem?_set_ne (Ne.symm (hn a rfl))]
    exact h
  | _ => exact h
/-- another cell changes -/
theorem Rel.other {f d r : Nat} {cs : Cs} {is : List Nat} {s : Tell.S} (R : Rel f d r cs is s) {i : Nat} {x : List D} (h : i ≠ f ∧ i ≠ d ∧ i ≠ r ∧ i ∉ is) : Rel f d r (cs.set i x) is s := by
  obtain ⟨h1, h2, h3, h4⟩ := h
  refine ⟨by rw [List.getElem?_set_ne h1]; exact R.fc, R.il, fun j k L hj hL => ?_, by rw [List.getElem?_set_ne h2]; exact R.dc, by rw [List.getElem?_set_ne h3]; exact R.rc, R.nd, R.nf, R.nD, R.nR, R.fd, R.fr, R.dr⟩
  rw [List.getElem?_set_ne fun e => h4 (by rw [e]; exact List.mem_of_getElem? hj)]
  exact R.lc j k L hj hL
/-- a new cell -/
theorem Rel.more {f d r : Nat} {cs : Cs} {is : List Nat} {s : Tell.S} (R : Rel f d r cs is s) (x : List D) : Rel f d r (cs ++ [x]) is s := by
  have k : ∀ {i : Nat} {y : List D}, cs[i]? = some y → (cs ++ [x])[i]? = some y := fun {i y} h => by
    rw [List.getElem?_append_left (List.getElem?_eq_some_iff.mp h).1]
    exact h
  exact ⟨k R.fc, R.il, fun j i L hj hL => k (R.lc j i L hj hL), k R.dc, k R.rc, R.nd, R.nf, R.nD, R.nR, R.fd, R.fr, R.dr⟩
theorem ix_seqN {cs : Cs} {ln : D} {xs : List D} {j : Nat} {y : D} (hs : seqOf cs ln = some xs) (h : xs[j]? = some y) : opIx ln (.int (j : Nat)) cs = .ok y cs := by
  have hl : j < xs.length := (List.getElem?_eq_some_iff.mp h).1
  have e : atI xs (j : Int) = some y := by
    unfold atI ixN
    rw [if_pos (by omega), if_pos (by omega), Option.bind_some, Int.toNat_natCast, h]
  cases ln with
  | lst zs =>
    cases hs
    show M.ofO (atI _ (j : Int)) cs = _
    rw [e]
    rfl
  | ref a => exact ix_refN hs h
  | scr ns =>
    cases hs
    show M.ofO (atI (ns.map D.int) (j : Int)) cs = _
    rw [e]
    rfl
  | _ => cases hs
theorem len_seq {a : En → M D} {env : En} {cs : Cs} {ln : D} {xs : List D} (h : a env cs = .ok ln cs) (hs : seqOf cs ln = some xs) : xCall opLen (aCons a aNil) env cs = .ok (.int xs.length) cs := by
  refine (call_ok (cons_ok h rfl)).trans ?_
  cases ln with
  | lst zs =>
    cases hs
    rfl
  | ref b =>
    show (match cs[b]? with
      | some xs => Rs.ok (D.int (xs.length : Nat)) cs
      | none => .no) = _
    rw [show cs[b]? = some xs from hs]
  | scr ns =>
    cases hs
    rfl
  | _ => cases hs
theorem nat_at {xs : List Nat} {j : Nat} (h : j < xs.length) : (xs.map natD)[j]? = some (.int (xs[j] : Nat)) := by
  rw [List.getElem?_map, List.getElem?_eq_getElem h]
  rfl
theorem pyGL_intsN {r : Nat → Option PyData} : ∀ xs : List Int, pyGL r (xs.map D.int) = some (xs.map PyData.int)
  | [] => rfl
  | x :: xs => by
    show (match some (PyData.int x), pyGL r (xs.map D.int) with
      | some p, some ps => some (p :: ps)
      | _, _ => none) = _
    rw [pyGL_intsN xs]
    rfl
theorem ne_nil_nat {w : Nat} {xs : List Nat} {cs : Cs} (h : cs[w]? = some (xs.map natD)) : opEq false (.ref w) (.lst []) cs = .ok (.bl (decide (xs ≠ []))) cs := by
  have e : xs.map natD = (xs.map fun x => ((x : Nat) : Int)).map D.int := by
    rw [List.map_map]
    rfl
  have e1 : py cs (.ref w) = some (.list ((xs.map fun x => ((x : Nat) : Int)).map PyData.int)) := by
    show (match cs[w]? with
      | some xs => (pyGL (pyN cs 2) xs).map PyData.list
      | none => none) = _
    rw [h, e]
    show (pyGL (pyN cs 2) _).map PyData.list = _
    rw [pyGL_intsN]
    rfl
  unfold opEq
  rw [e1]
  show (if (SeqAt.shaped (.list ((xs.map fun x => ((x : Nat) : Int)).map PyData.int)) && SeqAt.shaped (.list [])) = true then Rs.ok (D.bl (!PyData.eqv (.list ((xs.map fun x => ((x : Nat) : Int)).map PyData.int)) (.list []))) cs else .no) = _
  rw [PySem.W.ke_shaped_ints, if_pos (by rfl)]
  cases xs with
  | nil => simp [PyData.eqv, PyData.eqvAll]
  | cons x r => simp [PyData.eqv, PyData.eqvAll]
abbrev tBody : En → M Fl := (sSeq (sIf (bAnd (bVal (xBin opLt (xBin (opAdd false) (xVar 7) (xC (.int 1))) (xCall opLen (aCons (xVar 1) (aNil))))) (bVal (xBin opGt (xBin opMod (xBin opDiv (xVar 2) (xBin (opAdd false) (xC (.int 1)) (xVar 7))) (xC (.int 4))) (xC (.int 0))))) (sSeq (sDrop (xCallM f__law_place (aCons (xVar 0) (aCons (xBin opIx (xVar 1) (xVar 7)) (aCons (xBin opIx (xVar 1) (xBin (opAdd false) (xVar 7) (xC (.int 1)))) (aCons (xVar 3) (aCons (xVar 4) (aNil)))))))) (sSeq (sIf (bVal (xBin (opEq false) (xVar 6) (xLst false (aNil)))) (sDrop (xApp (xVar 5) (xTup (aCons (xBin opIx (xVar 6) (xUn opNeg (xC (.int 1)))) (aCons (xBin opIx (xVar 1) (xVar 7)) (aNil)))))) (sSkip)) (sAsg (xBin (opAdd false) (xVar 7) (xC (.int 1))) (.nm 7)))) (sSkip)) (sSeq (sDrop (xApp (xVar 6) (xBin opIx (xVar 1) (xVar 7)))) (sAsg (xBin (opAdd false) (xVar 7) (xC (.int 1))) (.nm 7))))
theorem c_thin_eq : c__law_thinner = sSeq (sAsg (xLst true (aNil)) (.nm 6)) (sSeq (sAsg (xC (.int 0)) (.nm 7)) (sSeq (sWhile (bVal (xBin opLt (xVar 7) (xCall opLen (aCons (xVar 1) (aNil))))) tBody 70) (sRet (xVar 6)))) := rfl
theorem callM_ok {f : List D → M D} {a : En → M (List D)} {env : En} {cs cs1 cs2 : Cs} {xs : List D} {y : D} (h : a env cs = .ok xs cs1) (hf : f xs cs1 = .ok y cs2) : xCallM f a env cs = .ok y cs2 := by
  show M.bnd (a env) f cs = _
  rw [M.bnd_ok h, hf]
abbrev tEnv (f d r l w k : Nat) (ln : D) (c : Int) : En := [some (.ref f), some ln, some (.int c), some (.ref d), some (.ref r), some (.ref l), some (.ref w), some (.int (k : Nat))]
theorem tail_ok {f d r l w k : Nat} {cs : Cs} {is : List Nat} {s : Tell.S} {left : List (Nat × Nat)} {fewer : List Nat} {ln : D} {lines : List Nat} {c : Int}
    (H : Tr f d r l w cs is s left fewer ln lines) (hk : k < lines.length) (hf : fewer.length ≤ 1000) :
    (sSeq (sDrop (xApp (xVar 6) (xBin opIx (xVar 1) (xVar 7)))) (sAsg (xBin (opAdd false) (xVar 7) (xC (.int 1))) (.nm 7))) (tEnv f d r l w k ln c) cs = .ok (.nx (tEnv f d r l w (k + 1) ln c)) (cs.set w ((fewer ++ [lines[k]]).map natD)) ∧ Tr f d r l w (cs.set w ((fewer ++ [lines[k]]).map natD)) is s left (fewer ++ [lines[k]]) ln lines := by
  have wl : w < cs.length := (List.getElem?_eq_some_iff.mp H.wc).1
  constructor
  · have e1 : xApp (xVar 6) (xBin opIx (xVar 1) (xVar 7)) (tEnv f d r l w k ln c) cs = .ok .non (cs.set w (fewer.map natD ++ [.int (lines[k] : Nat)])) :=
      app_ok (cs1 := cs) (cs2 := cs) (var_at rfl) ((bin_ok (var_at rfl) (var_at rfl)).trans (ix_seqN H.ls (nat_at hk))) H.wc (by rw [List.length_map]; omega)
    rw [seq_nx (drop_nx e1), List.map_append]
    rfl
  · refine ⟨H.R.other H.wf, by rw [List.getElem?_set_ne (Ne.symm H.lw)]; exact H.lc, List.getElem?_set_self wl, seqOf_set H.ls fun a ha => (H.na a ha).2.2.2.2.2, H.lf, H.wf, H.lw, H.na⟩
theorem ix_last {w : Nat} {xs : List Nat} {cs : Cs} (h : cs[w]? = some (xs.map natD)) (hn : xs ≠ []) : opIx (.ref w) (.int (-1)) cs = .ok (.int (xs.getLast hn : Nat)) cs := by
  have hp : 0 < xs.length := List.length_pos_iff.mpr hn
  show (match seqOf cs (.ref w) with
    | some xs => M.ofO (atI xs (-1)) cs
    | none => .no) = _
  rw [show seqOf cs (.ref w) = some (xs.map natD) from h]
  show M.ofO (atI (xs.map natD) (-1)) cs = _
  have e : atI (xs.map natD) (-1) = some (.int (xs.getLast hn : Nat)) := by
    unfold atI ixN
    rw [if_neg (by omega), List.length_map, if_pos (by omega), Option.bind_some, show (-1 + (xs.length : Int)).toNat = xs.length - 1 by omega, List.getElem?_map, List.getLast_eq_getElem, List.getElem?_eq_getElem (by omega)]
    rfl
  rw [e]
  rfl
theorem Tr.placed {n f d r l w : Nat} {cs cs1 : Cs} {is is1 : List Nat} {s s1 : Tell.S} {left : List (Nat × Nat)} {fewer : List Nat} {ln : D} {lines : List Nat} (H : Tr f d r l w cs is s left fewer ln lines) (R1 : Rel f d r cs1 is1 s1)
    (hf : ∀ i, i < cs.length → i ≠ f → i ≠ d → i ≠ r → i ∉ is → cs1[i]? = cs[i]? ∧ i ∉ is1) : Tr f d r l w cs1 is1 s1 left fewer ln lines := by
  have ll : l < cs.length := (List.getElem?_eq_some_iff.mp H.lc).1
  have wl : w < cs.length := (List.getElem?_eq_some_iff.mp H.wc).1
  obtain ⟨a1, a2, a3, a4⟩ := H.lf
  obtain ⟨b1, b2, b3, b4⟩ := H.wf
  obtain ⟨x1, x2⟩ := hf l ll a1 a2 a3 a4
  obtain ⟨y1, y2⟩ := hf w wl b1 b2 b3 b4
  have key : ∀ a, ln = .ref a → cs1[a]? = cs[a]? ∧ a ∉ is1 := fun a ha => by
    obtain ⟨c1, c2, c3, c4, _, _⟩ := H.na a ha
    have hl := H.ls
    rw [ha] at hl
    exact hf a (List.getElem?_eq_some_iff.mp (show cs[a]? = some _ from hl)).1 c1 c2 c3 c4
  refine ⟨R1, x1.trans H.lc, y1.trans H.wc, ?_, ⟨a1, a2, a3, x2⟩, ⟨b1, b2, b3, y2⟩, H.lw, fun a ha => ?_⟩
  · have hl := H.ls
    cases ln with
    | ref a => exact (key a rfl).1.trans hl
    | _ => exact hl
  · obtain ⟨c1, c2, c3, c4, c5, c6⟩ := H.na a ha
    exact ⟨c1, c2, c3, (key a ha).2, c5, c6⟩
theorem tBody_ok {n m f d r l w k : Nat} {T : Nat → Prop} {cs : Cs} {is : List Nat} {s : Tell.S} {left : List (Nat × Nat)} {fewer : List Nat} {ln : D} {lines : List Nat} {c : Int}
    (H : Tr f d r l w cs is s left fewer ln lines) (Th : Tell.Th n m T s fewer (lines.drop k) left) (hn : n ≤ 64) (hm : m ≤ 100) (hk : k < lines.length) (hll : lines.length ≤ n) :
    ∃ (T' : Nat → Prop) (cs' : Cs) (is' : List Nat) (s' : Tell.S) (left' : List (Nat × Nat)) (fewer' : List Nat) (k' : Nat), k < k' ∧ k' ≤ lines.length ∧
      tBody [some (.ref f), some ln, some (.int c), some (.ref d), some (.ref r), some (.ref l), some (.ref w), some (.int (k : Nat))] cs = .ok (.nx [some (.ref f), some ln, some (.int c), some (.ref d), some (.ref r), some (.ref l), some (.ref w), some (.int (k' : Nat))]) cs' ∧
      Tr f d r l w cs' is' s' left' fewer' ln lines ∧ Tell.Th n m T' s' fewer' (lines.drop k') left' ∧ cs.length ≤ cs'.length := by
  have hdrop : lines.drop k = lines[k] :: lines.drop (k + 1) := List.drop_eq_getElem_cons hk
  have hfew : fewer.length ≤ n := by
    have := Th.cn
    rw [List.length_append] at this
    omega
  have elen : ∀ e : En, e[1]? = some (some ln) → xCall opLen (aCons (xVar 1) aNil) e cs = .ok (.int (lines.length : Nat)) cs := fun e he => by
    rw [len_seq (var_at he) H.ls, List.length_map]
  -- does it go on as it is?
  have keep : (sIf (bAnd (bVal (xBin opLt (xBin (opAdd false) (xVar 7) (xC (.int 1))) (xCall opLen (aCons (xVar 1) (aNil))))) (bVal (xBin opGt (xBin opMod (xBin opDiv (xVar 2) (xBin (opAdd false) (xC (.int 1)) (xVar 7))) (xC (.int 4))) (xC (.int 0))))) (sSeq (sDrop (xCallM f__law_place (aCons (xVar 0) (aCons (xBin opIx (xVar 1) (xVar 7)) (aCons (xBin opIx (xVar 1) (xBin (opAdd false) (xVar 7) (xC (.int 1)))) (aCons (xVar 3) (aCons (xVar 4) (aNil)))))))) (sSeq (sIf (bVal (xBin (opEq false) (xVar 6) (xLst false (aNil)))) (sDrop (xApp (xVar 5) (xTup (aCons (xBin opIx (xVar 6) (xUn opNeg (xC (.int 1)))) (aCons (xBin opIx (xVar 1) (xVar 7)) (aNil)))))) (sSkip)) (sAsg (xBin (opAdd false) (xVar 7) (xC (.int 1))) (.nm 7)))) sSkip) (tEnv f d r l w k ln c) cs = .ok (.nx (tEnv f d r l w k ln c)) cs →
      ∃ (T' : Nat → Prop) (cs' : Cs) (is' : List Nat) (s' : Tell.S) (left' : List (Nat × Nat)) (fewer' : List Nat) (k' : Nat), k < k' ∧ k' ≤ lines.length ∧ tBody (tEnv f d r l w k ln c) cs = .ok (.nx (tEnv f d r l w k' ln c)) cs' ∧ Tr f d r l w cs' is' s' left' fewer' ln lines ∧ Tell.Th n m T' s' fewer' (lines.drop k') left' ∧ cs.length ≤ cs'.length := fun hif => by
    obtain ⟨e1, H1⟩ := tail_ok (c := c) H hk (by omega)
    rw [hdrop] at Th
    exact ⟨T, _, is, s, left, _, k + 1, Nat.lt_succ_self _, hk, (seq_nx hif).trans e1, H1, Th.keep, by rw [List.length_set]; exact Nat.le_refl _⟩
  have t1 : (bVal (xBin opLt (xBin (opAdd false) (xVar 7) (xC (.int 1))) (xCall opLen (aCons (xVar 1) (aNil))))) (tEnv f d r l w k ln c) cs = .ok (decide (k + 1 < lines.length)) cs := by
    refine val_b ?_
    rw [bin_ok (show _ = Rs.ok (D.int ((k : Int) + 1)) cs from rfl) (elen _ rfl)]
    show (Rs.ok (D.bl (decide ((k : Int) + 1 < (lines.length : Nat)))) cs : Rs D) = _
    congr 2
    exact decide_eq_decide.mpr (by omega)
  have t2 : (bVal (xBin opGt (xBin opMod (xBin opDiv (xVar 2) (xBin (opAdd false) (xC (.int 1)) (xVar 7))) (xC (.int 4))) (xC (.int 0)))) (tEnv f d r l w k ln c) cs = .ok (decide (0 < c / (1 + (k : Int)) % 4)) cs := by
    refine val_b ?_
    have e1 : xBin opDiv (xVar 2) (xBin (opAdd false) (xC (.int 1)) (xVar 7)) (tEnv f d r l w k ln c) cs = .ok (.int (c / (1 + (k : Int)))) cs := by
      rw [bin_ok (var_at rfl) (show _ = Rs.ok (D.int (1 + (k : Int))) cs from rfl)]
      show (if decide (0 < 1 + (k : Int) ∧ 1 + (k : Int) < 1073741824) = true then M.ret (D.int (c / (1 + (k : Int)))) else M.no) cs = _
      rw [if_pos (decide_eq_true ⟨by omega, by omega⟩)]
      rfl
    rw [bin_ok ((bin_ok e1 (show _ = Rs.ok (D.int 4) cs from rfl)).trans (show _ = Rs.ok (D.int (c / (1 + (k : Int)) % 4)) cs from rfl)) (show _ = Rs.ok (D.int 0) cs from rfl)]
    rfl
  by_cases q1 : k + 1 < lines.length
  case neg =>
    rw [decide_eq_false q1] at t1
    exact keep ((if_f (and_f t1)).trans rfl)
  by_cases q2 : 0 < c / (1 + (k : Int)) % 4
  case neg =>
    rw [decide_eq_true q1] at t1
    rw [decide_eq_false q2] at t2
    exact keep ((if_f ((and_t t1).trans t2)).trans rfl)
  rw [decide_eq_true q1] at t1
  rw [decide_eq_true q2] at t2
  have hdrop2 : lines.drop k = lines[k] :: lines[k + 1] :: lines.drop (k + 2) := by
    rw [hdrop, List.drop_eq_getElem_cons q1]
  rw [hdrop2] at Th
  have hlow : lines[k] < n := Th.lt _ (List.mem_append_right _ List.mem_cons_self)
  have hhigh : lines[k + 1] < n := Th.lt _ (List.mem_append_right _ (List.mem_cons_of_mem _ List.mem_cons_self))
  obtain ⟨cs1, is1, ep, R1, hl1, hf1⟩ := place_ok H.R Th.I (by omega) hlow hhigh (by have := Th.B.l; omega) (fun L hL => by have := lay_len Th.I L hL; omega)
  have H1 := H.placed (n := n) R1 hf1
  have ep2 : xCallM f__law_place (aCons (xVar 0) (aCons (xBin opIx (xVar 1) (xVar 7)) (aCons (xBin opIx (xVar 1) (xBin (opAdd false) (xVar 7) (xC (.int 1)))) (aCons (xVar 3) (aCons (xVar 4) (aNil)))))) (tEnv f d r l w k ln c) cs = .ok .non cs1 :=
    callM_ok (cons_ok (var_at rfl) (cons_ok ((bin_ok (var_at rfl) (var_at rfl)).trans (ix_seqN H.ls (nat_at hk))) (cons_ok ((bin_ok (var_at rfl) (show _ = Rs.ok (D.int ((k + 1 : Nat) : Int)) cs from rfl)).trans (ix_seqN H.ls (nat_at q1))) (cons_ok (var_at rfl) (cons_ok (var_at rfl) rfl))))) ep
  have Td := Th.drop
  have ll : l < cs1.length := (List.getElem?_eq_some_iff.mp H1.lc).1
  -- the left ones
  obtain ⟨cs2, e6, H2, hl2⟩ : ∃ cs2, (sIf (bVal (xBin (opEq false) (xVar 6) (xLst false (aNil)))) (sDrop (xApp (xVar 5) (xTup (aCons (xBin opIx (xVar 6) (xUn opNeg (xC (.int 1)))) (aCons (xBin opIx (xVar 1) (xVar 7)) (aNil)))))) (sSkip)) (tEnv f d r l w k ln c) cs1 = .ok (.nx (tEnv f d r l w k ln c)) cs2 ∧
      Tr f d r l w cs2 is1 (Tell.place s lines[k] lines[k + 1]) (if hf : fewer = [] then left else left ++ [(fewer.getLast hf, lines[k])]) fewer ln lines ∧ cs1.length ≤ cs2.length := by
    have tn : (bVal (xBin (opEq false) (xVar 6) (xLst false (aNil)))) (tEnv f d r l w k ln c) cs1 = .ok (decide (fewer ≠ [])) cs1 := val_b ((bin_ok (var_at rfl) rfl).trans (ne_nil_nat H1.wc))
    by_cases hf : fewer = []
    · rw [decide_eq_false (by simp [hf])] at tn
      rw [dif_pos hf]
      exact ⟨cs1, (if_f tn).trans rfl, H1, Nat.le_refl _⟩
    · rw [decide_eq_true hf] at tn
      rw [dif_neg hf]
      have hleft : left.length ≤ 1000 := by
        have := Th.cn
        omega
      have e7 : xApp (xVar 5) (xTup (aCons (xBin opIx (xVar 6) (xUn opNeg (xC (.int 1)))) (aCons (xBin opIx (xVar 1) (xVar 7)) (aNil)))) (tEnv f d r l w k ln c) cs1 = .ok .non (cs1.set l (left.map lfD ++ [lfD (fewer.getLast hf, lines[k])])) := by
        refine app_ok (cs1 := cs1) (cs2 := cs1) (var_at rfl) ?_ H1.lc (by rw [List.length_map]; omega)
        show M.bnd (aCons _ _ _) _ cs1 = _
        rw [M.bnd_ok (cons_ok ((bin_ok (var_at rfl) rfl).trans (ix_last H1.wc hf)) (cons_ok ((bin_ok (var_at rfl) (var_at rfl)).trans (ix_seqN H1.ls (nat_at hk))) rfl))]
        rfl
      refine ⟨_, (if_t tn).trans (drop_nx e7), ?_, by rw [List.length_set]; exact Nat.le_refl _⟩
      refine ⟨H1.R.other H1.lf, by rw [List.getElem?_set_self ll, List.map_append]; rfl, by rw [List.getElem?_set_ne H1.lw]; exact H1.wc, seqOf_set H1.ls fun a ha => (H1.na a ha).2.2.2.2.1, H1.lf, H1.wf, H1.lw, H1.na⟩
  obtain ⟨e8, H3⟩ := tail_ok (c := c) (k := k + 1) H2 q1 (by omega)
  refine ⟨_, _, is1, _, _, _, k + 2, by omega, by omega, (seq_nx ((if_t ((and_t t1).trans t2)).trans ((seq_nx (drop_nx ep2)).trans ((seq_nx e6).trans rfl)))).trans e8, H3, Td, by rw [List.length_set]; omega⟩
theorem runM_rt {c : En → M Fl} {k : Nat} {ds : List D} {cs cs1 : Cs} {d : D} (h : c (startE k ds) cs = .ok (.rt d) cs1) : runM c k ds cs = .ok d cs1 := by
  show M.bnd (c (startE k ds)) _ cs = _
  rw [M.bnd_ok h]
  rfl
theorem thinner_ok {n m f d r l : Nat} {cs : Cs} {is : List Nat} {s : Tell.S} {left : List (Nat × Nat)} {ln : D} {lines : List Nat} {c : Int} (R : Rel f d r cs is s) (lc : cs[l]? = some (left.map lfD)) (ls : seqOf cs ln = some (lines.map natD))
    (lf : l ≠ f ∧ l ≠ d ∧ l ≠ r ∧ l ∉ is) (na : ∀ a, ln = .ref a → a ≠ f ∧ a ≠ d ∧ a ≠ r ∧ a ∉ is ∧ a ≠ l) (Th : Tell.Th n m (fun _ => False) s [] lines left) (hn : n ≤ 64) (hm : m ≤ 100) :
    ∃ (cs' : Cs) (is' : List Nat) (s' : Tell.S) (left' : List (Nat × Nat)) (act : List Nat) (T' : Nat → Prop), f__law_thinner [.ref f, ln, .int c, .ref d, .ref r, .ref l] cs = .ok (.ref cs.length) cs' ∧ Tr f d r l cs.length cs' is' s' left' act ln lines ∧ Tell.Th n m T' s' act [] left' ∧ cs.length < cs'.length := by
  have hll : lines.length ≤ n := by
    have := Th.cn
    rw [List.nil_append] at this
    omega
  have lt : ∀ {i : Nat} {y : List D}, cs[i]? = some y → i < cs.length := fun h => (List.getElem?_eq_some_iff.mp h).1
  have isl : ∀ i ∈ is, i < cs.length := fun i hi => by
    obtain ⟨j, hj⟩ := List.mem_iff_getElem?.mp hi
    have hjl : j < s.found.length := by
      rw [← R.il]
      exact (List.getElem?_eq_some_iff.mp hj).1
    exact lt (R.lc j i _ hj (List.getElem?_eq_getElem hjl))
  have H0 : Tr f d r l cs.length (cs ++ [[]]) is s left [] ln lines := by
    have f1 := lt R.fc
    have d1 := lt R.dc
    have r1 := lt R.rc
    have l1 := lt lc
    refine ⟨R.more [], by rw [List.getElem?_append_left l1]; exact lc, by simp, ?_, lf, ⟨by omega, by omega, by omega, fun z => by have := isl _ z; omega⟩, by omega, fun a ha => ?_⟩
    · cases ln with
      | ref a =>
        have := lt (show cs[a]? = some (lines.map natD) from ls)
        show (cs ++ [[]])[a]? = _
        rw [List.getElem?_append_left this]
        exact ls
      | _ => exact ls
    · obtain ⟨a1, a2, a3, a4, a5⟩ := na a ha
      refine ⟨a1, a2, a3, a4, a5, ?_⟩
      rw [ha] at ls
      have := lt (show cs[a]? = some (lines.map natD) from ls)
      omega
  obtain ⟨j', e', cs', hw, ⟨rfl, hj, T', is', s', left', act, H', Th', hl'⟩, ht⟩ := while_inv (t := bVal (xBin opLt (xVar 7) (xCall opLen (aCons (xVar 1) (aNil))))) (b := tBody)
    (fun j env cs1 => env = tEnv f d r l cs.length j ln c ∧ j ≤ lines.length ∧ ∃ (T' : Nat → Prop) (is' : List Nat) (s' : Tell.S) (left' : List (Nat × Nat)) (act : List Nat), Tr f d r l cs.length cs1 is' s' left' act ln lines ∧ Tell.Th n m T' s' act (lines.drop j) left' ∧ cs.length < cs1.length) lines.length (fun j env cs1 hI => by
      obtain ⟨rfl, hj, T', is', s', left', act, H', Th', hl'⟩ := hI
      refine ⟨decide (j < lines.length), ?_, fun hk => ?_⟩
      · refine val_b ?_
        rw [bin_ok (var_at rfl) (len_seq (var_at rfl) H'.ls), List.length_map]
        show (Rs.ok (D.bl (decide ((j : Int) < (lines.length : Nat)))) cs1 : Rs D) = _
        congr 2
        exact decide_eq_decide.mpr (by omega)
      · have hjl := of_decide_eq_true hk
        obtain ⟨T2, cs2, is2, s2, left2, act2, k2, h1, h2, h3, h4, h5, h6⟩ := tBody_ok (c := c) H' Th' hn hm hjl hll
        exact ⟨hjl, k2, _, cs2, h1, h3, rfl, h2, T2, is2, s2, left2, act2, h4, h5, by omega⟩) 70 0 (tEnv f d r l cs.length 0 ln c) (cs ++ [[]]) ⟨rfl, Nat.zero_le _, _, is, s, left, [], H0, Th, by rw [List.length_append]; exact Nat.lt_succ_self _⟩ (by omega) (by decide)
  have hend : j' = lines.length := by
    have e : (bVal (xBin opLt (xVar 7) (xCall opLen (aCons (xVar 1) (aNil))))) (tEnv f d r l cs.length j' ln c) cs' = .ok (decide (j' < lines.length)) cs' := by
      refine val_b ?_
      rw [bin_ok (var_at rfl) (len_seq (var_at rfl) H'.ls), List.length_map]
      show (Rs.ok (D.bl (decide ((j' : Int) < (lines.length : Nat)))) cs' : Rs D) = _
      congr 2
      exact decide_eq_decide.mpr (by omega)
    rw [e] at ht
    have := of_decide_eq_false (Rs.ok.inj ht).1
    omega
  subst hend
  rw [List.drop_length] at Th'
  refine ⟨cs', is', s', left', act, T', runM_rt ?_, H', Th', hl'⟩
  rw [c_thin_eq]
  exact (seq_nx (asg_nm (d := .ref cs.length) (cs1 := cs ++ [[]]) rfl)).trans ((seq_nx (asg_nm (d := .int 0) (cs1 := cs ++ [[]]) rfl)).trans ((seq_nx hw).trans (ret_rt (var_at rfl))))
end LK
namespace LK
open L2 G PySem PySem.Spec PyProof.Rows
mutual
theorem eqD_refl : ∀ d : D, eqD d d = true
  | .non => rfl
  | .bl b => by show (b == b) = true; exact beq_self_eq_true b
  | .int i => by show (i == i) = true; exact beq_self_eq_true i
  | .str x => by show (x == x) = true; exact beq_self_eq_true x
  | .tup xs => eqDL_refl xs
  | .lst xs => eqDL_refl xs
  | .ref i => by show (i == i) = true; exact beq_self_eq_true i
  | .dic => rfl
  | .scr ns => by show (ns == ns) = true; exact beq_self_eq_true ns
theorem eqDL_refl : ∀ ds : List D, eqDL ds ds = true
  | [] => rfl
  | d :: ds => by
    show (eqD d d && eqDL ds ds) = true
    rw [eqD_refl d, eqDL_refl ds]
    rfl
end
theorem live_self {cs : Cs} {ln : D} {xs : List D} (h : seqOf cs ln = some xs) : liveOf xs ln cs = true := by
  cases ln with
  | ref a =>
    show (match cs[a]? with
      | some ys => eqDL ys xs
      | none => false) = true
    rw [show cs[a]? = some xs from h]
    exact eqDL_refl xs
  | _ => rfl
/-- the lines of each group, as data -/
def grpD (groups : List (List Nat)) : D := .lst (groups.map fun g => .lst (g.map natD))
theorem cut_take {xs : List D} {i : Nat} (h : i ≤ xs.length) : G.cutD xs none (some (i : Int)) = xs.take i := by
  unfold G.cutD
  rw [HT.sIx_none, HT.sIx_nat, Nat.sub_zero, List.drop_zero, Nat.min_eq_left h]
theorem cut_drop {xs : List D} {i : Nat} (h : i ≤ xs.length) : G.cutD xs (some (i : Int)) none = xs.drop i := by
  unfold G.cutD
  rw [HT.sIx_none, HT.sIx_nat, Nat.min_eq_left h, List.take_of_length_le (by rw [List.length_drop]; exact Nat.le_refl _)]
/-- a list split at two neighbours -/
theorem split2 {α : Type} {xs : List α} {i : Nat} (h : i + 1 < xs.length) : xs = xs.take i ++ xs[i] :: xs[i + 1] :: xs.drop (i + 2) := by
  have e1 : xs.drop i = xs[i] :: xs.drop (i + 1) := List.drop_eq_getElem_cons (by omega)
  have e2 : xs.drop (i + 1) = xs[i + 1] :: xs.drop (i + 2) := List.drop_eq_getElem_cons h
  rw [← e2, ← e1, List.take_append_drop]
/-- the books between turns: left in cell l -/
structure Bk (f d r l : Nat) (cs : Cs) (is : List Nat) (s : Tell.S) (left : List (Nat × Nat)) : Prop where
  R : Rel f d r cs is s
  lc : cs[l]? = some (left.map lfD)
  lf : l ≠ f ∧ l ≠ d ∧ l ≠ r ∧ l ∉ is
theorem Bk.place {n f d r l : Nat} {cs : Cs} {is : List Nat} {s : Tell.S} {left : List (Nat × Nat)} (B : Bk f d r l cs is s left) (I : Tell.Inv n s) (hn : n ≤ 64) (hs : s.found.length ≤ 1000) {low high : Nat} (hl : low < n) (hh : high < n) :
    ∃ cs' is', f__law_place [.ref f, .int low, .int high, .ref d, .ref r] cs = .ok .non cs' ∧ Bk f d r l cs' is' (Tell.place s low high) left := by
  obtain ⟨cs1, is1, e, R1, _, hf⟩ := place_ok B.R I (by omega) hl hh hs (fun L hL => by have := lay_len I L hL; omega)
  obtain ⟨a1, a2, a3, a4⟩ := B.lf
  obtain ⟨x1, x2⟩ := hf l (List.getElem?_eq_some_iff.mp B.lc).1 a1 a2 a3 a4
  exact ⟨cs1, is1, e, R1, x1.trans B.lc, a1, a2, a3, x2⟩
/-- one line led to each of a group -/
theorem lead_loop {n m f d r l low : Nat} {cs : Cs} {is : List Nat} {s : Tell.S} {left : List (Nat × Nat)} {Q : List Nat} {a : Nat} {it : En → M It0} {b : En → M Fl} {live : Cs → Bool} {j : Nat} {env : En}
    (hi : it env cs = .ok ⟨Q.map natD, live⟩ cs) (hlv : ∀ c, live c = true)
    (hb : ∀ (e : En) (c c' : Cs) (h : Nat), (∀ i, i ≠ j → e[i]? = env[i]?) → e.length = env.length → f__law_place [.ref f, .int low, .int h, .ref d, .ref r] c = .ok .non c' → b (e.set j (some (.int h))) c = .ok (.nx (e.set j (some (.int h)))) c')
    (B : Bk f d r l cs is s left) (I : Tell.Inv n s) (Bd : Tell.Bd m (fun _ => False) s) (hn : n ≤ 64) (hm : m ≤ 200) (hlow : low < n) (hv : s.v low = some (a, low)) (hQ : ∀ h ∈ Q, low < h ∧ h < n ∧ s.v h = some (low + 1, h)) (nd : Q.Nodup) :
    ∃ e' cs' is', sFor it (.nm j) b env cs = .ok (.nx e') cs' ∧ (∀ i, i ≠ j → e'[i]? = env[i]?) ∧ e'.length = env.length ∧ Bk f d r l cs' is' (Q.foldl (fun s h => Tell.place s low h) s) left := by
  obtain ⟨e', cs', h1, h2, h3, is', h4⟩ := for_inv (t := .nm j) (b := b) (fun k e c => (∀ i, i ≠ j → e[i]? = env[i]?) ∧ e.length = env.length ∧ ∃ is', Bk f d r l c is' ((Q.take k).foldl (fun s h => Tell.place s low h) s) left) hi (fun _ _ c _ => hlv c) (fun k x e c hx hI => by
    obtain ⟨g1, g2, is', g3⟩ := hI
    rw [List.getElem?_map] at hx
    cases q : Q[k]? with
    | none =>
      rw [q] at hx
      cases hx
    | some h =>
      rw [q] at hx
      cases hx
      have hk : k < Q.length := (List.getElem?_eq_some_iff.mp q).1
      obtain ⟨_, Ik, Bk', _⟩ := Tell.lead_all (m := m) (a := a) (low := low) (Q := Q.take k) (P := fun _ => False) I Bd hv (fun z => z) (fun x hx => by
        obtain ⟨z1, z2, z3⟩ := hQ x (List.mem_of_mem_take hx)
        exact ⟨z1, z2, fun z => z, z3⟩) (nd.sublist (List.take_sublist _ _))
      obtain ⟨c', is2, ep, B2⟩ := g3.place Ik hn (by have := Bk'.l; omega) hlow (hQ h (List.mem_of_getElem? q)).2.1
      refine ⟨_, rfl, _, c', hb e c c' h g1 g2 ep, fun i hi => by rw [List.getElem?_set_ne (Ne.symm hi)]; exact g1 i hi, by rw [List.length_set]; exact g2, is2, ?_⟩
      rw [List.take_succ, q]
      show Bk f d r l c' is2 ((Q.take k ++ [h]).foldl _ s) left
      rw [List.foldl_append]
      exact B2) ⟨fun _ _ => rfl, rfl, is, B⟩
  rw [List.length_map, List.take_length] at h4
  exact ⟨e', cs', is', h1, h2, h3, h4⟩
theorem ix_lst {xs : List D} {i : Int} {cs : Cs} (h0 : 0 ≤ i) (h : i < xs.length) : opIx (.lst xs) (.int i) cs = .ok (xs[i.toNat]'(by omega)) cs := by
  show M.ofO (atI xs i) cs = _
  unfold atI ixN
  rw [if_pos h0, if_pos h, Option.bind_some, List.getElem?_eq_getElem (by omega)]
  rfl
theorem pick {a b : En → M D} {env : En} {cs : Cs} {xs : List D} {i : Int} (h1 : a env cs = .ok (.lst xs) cs) (h2 : b env cs = .ok (.int i) cs) (h0 : 0 ≤ i) (h : i < xs.length) : ∃ d ∈ xs, xBin opIx a b env cs = .ok d cs :=
  ⟨_, List.getElem_mem (by omega), (bin_ok h1 h2).trans (ix_lst h0 h)⟩
theorem mulB {env : En} {cs cs1 : Cs} {x y : En → M D} {a b : Int} (h1 : x env cs = .ok (.int a) cs1) (h2 : y env cs1 = .ok (.int b) cs1) (h : (-(2 ^ 64) < a ∧ a < 2 ^ 64) ∨ (-(2 ^ 64) < b ∧ b < 2 ^ 64)) : xBin (opMulX false) x y env cs = .ok (.int (a * b)) cs1 := by
  rw [bin_ok h1 h2]
  show (if decide ((-(2 ^ 64) < a ∧ a < 2 ^ 64) ∨ (-(2 ^ 64) < b ∧ b < 2 ^ 64)) = true then M.ret (D.int (a * b)) else M.no) cs1 = _
  rw [if_pos (decide_eq_true h)]
  rfl
theorem divB {env : En} {cs cs1 : Cs} {x y : En → M D} {a b : Int} (h1 : x env cs = .ok (.int a) cs1) (h2 : y env cs1 = .ok (.int b) cs1) (h : 0 < b ∧ b < 1073741824) : xBin opDiv x y env cs = .ok (.int (a / b)) cs1 := by
  rw [bin_ok h1 h2]
  show (if decide (0 < b ∧ b < 1073741824) = true then M.ret (D.int (a / b)) else M.no) cs1 = _
  rw [if_pos (decide_eq_true h)]
  rfl
theorem modB {env : En} {cs cs1 : Cs} {x y : En → M D} {a b : Int} (h1 : x env cs = .ok (.int a) cs1) (h2 : y env cs1 = .ok (.int b) cs1) (h : 0 < b) : xBin opMod x y env cs = .ok (.int (a % b)) cs1 := by
  rw [bin_ok h1 h2]
  show (if decide (0 < b) = true then M.ret (D.int (a % b)) else M.no) cs1 = _
  rw [if_pos (decide_eq_true h)]
  rfl
theorem subB {env : En} {cs cs1 cs2 : Cs} {x y : En → M D} {a b : Int} (h1 : x env cs = .ok (.int a) cs1) (h2 : y env cs1 = .ok (.int b) cs2) : xBin opSub x y env cs = .ok (.int (a - b)) cs2 := (bin_ok h1 h2).trans rfl
abbrev g0 : En → M Fl := sAsg (xBin opMod (xBin (opMulX false) (xVar 0) (xC (.int 16807))) (xC (.int 2147483647))) (.nm 0)
abbrev g1 : En → M Fl := sAsg (xBin opIx (xLst false (aCons (xBin opMod (xBin opDiv (xVar 0) (xC (.int 3))) (xBin opSub (xCall opLen (aCons (xVar 8) (aNil))) (xC (.int 1)))) (aCons (xC (.int 0)) (aCons (xBin opSub (xCall opLen (aCons (xVar 8) (aNil))) (xC (.int 2))) (aNil))))) (xBin opMod (xVar 0) (xC (.int 3)))) (.nm 9)
abbrev g2 : En → M Fl := sFor (itSeq (xBin opIx (xVar 8) (xBin (opAdd false) (xVar 9) (xC (.int 1))))) (.nm 10) (sDrop (xCallM f__law_place (aCons (xVar 2) (aCons (xBin opIx (xBin opIx (xVar 8) (xVar 9)) (xUn opNeg (xC (.int 1)))) (aCons (xVar 10) (aCons (xVar 4) (aCons (xVar 5) (aNil))))))))
abbrev g3 : En → M Fl := sAsg (xBin (opAdd false) (xBin opIx (xVar 8) (xVar 9)) (xBin opIx (xVar 8) (xBin (opAdd false) (xVar 9) (xC (.int 1))))) (.nm 11)
abbrev g4 : En → M Fl := sAsg (xBin (opAdd false) (xBin (opAdd false) (xSl false (xVar 8) (pNo) (pSome (xVar 9))) (xLst false (aCons (xVar 11) (aNil)))) (xSl false (xVar 8) (pSome (xBin (opAdd false) (xVar 9) (xC (.int 2)))) (pNo))) (.nm 8)
abbrev gBody : En → M Fl := sSeq g0 (sSeq g1 (sSeq g2 (sSeq g3 g4)))
theorem grp_at {groups : List (List Nat)} {i : Nat} (h : i < groups.length) {cs : Cs} : opIx (grpD groups) (.int (i : Nat)) cs = .ok (.lst (groups[i].map natD)) cs := by
  refine (ix_seqN (xs := groups.map fun g => .lst (g.map natD)) rfl ?_)
  rw [List.getElem?_map, List.getElem?_eq_getElem h]
  rfl
theorem last_lst {xs : List Nat} {cs : Cs} (hn : xs ≠ []) : opIx (.lst (xs.map natD)) (.int (-1)) cs = .ok (.int (xs.getLast hn : Nat)) cs := by
  have hp : 0 < xs.length := List.length_pos_iff.mpr hn
  show M.ofO (atI (xs.map natD) (-1)) cs = _
  have e : atI (xs.map natD) (-1) = some (.int (xs.getLast hn : Nat)) := by
    unfold atI ixN
    rw [if_neg (by omega), List.length_map, if_pos (by omega), Option.bind_some, show (-1 + (xs.length : Int)).toNat = xs.length - 1 by omega, List.getElem?_map, List.getLast_eq_getElem, List.getElem?_eq_getElem (by omega)]
    rfl
  rw [e]
  rfl
theorem gBody_ok {n m : Nat} {cs : Cs} {is : List Nat} {s : Tell.S} {left : List (Nat × Nat)} {groups : List (List Nat)} {c : Int} {x1 x6 x7 x9 x10 x11 x12 x13 x14 : Option D}
    (B : Bk 0 2 3 1 cs is s left) (H : Tell.Gr n m s groups left) (hn : n ≤ 64) (hm : m ≤ 200) (h1 : 1 < groups.length) (hz : groups.length ≤ 64) (hgl : groups.flatten.length ≤ 64) :
    ∃ (c' : Int) (y9 y10 y11 : Option D) (cs' : Cs) (is' : List Nat) (s' : Tell.S) (groups' : List (List Nat)),
      gBody [some (.int c), x1, some (.ref 0), some (.ref 1), some (.ref 2), some (.ref 3), x6, x7, some (grpD groups), x9, x10, x11, x12, x13, x14] cs = .ok (.nx [some (.int c'), x1, some (.ref 0), some (.ref 1), some (.ref 2), some (.ref 3), x6, x7, some (grpD groups'), y9, y10, y11, x12, x13, x14]) cs' ∧
      Bk 0 2 3 1 cs' is' s' left ∧ Tell.Gr n (m + 1) s' groups' left ∧ groups'.length + 1 = groups.length ∧ groups'.flatten.length = groups.flatten.length := by
  have elen : ∀ (e : En) (k : Cs), e[8]? = some (some (grpD groups)) → xCall opLen (aCons (xVar 8) aNil) e k = .ok (.int (groups.length : Nat)) k := fun e k he => by
    rw [len_seq (xs := groups.map fun g => .lst (g.map natD)) (var_at he) rfl, List.length_map]
  have e0 : g0 [some (.int c), x1, some (.ref 0), some (.ref 1), some (.ref 2), some (.ref 3), x6, x7, some (grpD groups), x9, x10, x11, x12, x13, x14] cs = .ok (.nx [some (.int (c * 16807 % 2147483647)), x1, some (.ref 0), some (.ref 1), some (.ref 2), some (.ref 3), x6, x7, some (grpD groups), x9, x10, x11, x12, x13, x14]) cs :=
    asg_nm (modB (mulB (cs1 := cs) (var_at rfl) (b := 16807) rfl (.inr ⟨by decide, by decide⟩)) (b := 2147483647) rfl (by decide))
  generalize hc : c * 16807 % 2147483647 = c2 at e0
  have c0 : 0 ≤ c2 := by rw [← hc]; exact Int.emod_nonneg _ (by decide)
  -- where
  obtain ⟨i, hi, e1⟩ : ∃ i : Nat, i + 1 < groups.length ∧ g1 [some (.int c2), x1, some (.ref 0), some (.ref 1), some (.ref 2), some (.ref 3), x6, x7, some (grpD groups), x9, x10, x11, x12, x13, x14] cs = .ok (.nx [some (.int c2), x1, some (.ref 0), some (.ref 1), some (.ref 2), some (.ref 3), x6, x7, some (grpD groups), some (.int (i : Nat)), x10, x11, x12, x13, x14]) cs := by
    obtain ⟨d, hd, e⟩ := pick (xs := [.int (c2 / 3 % ((groups.length : Int) - 1)), .int 0, .int ((groups.length : Int) - 2)]) (a := xLst false (aCons (xBin opMod (xBin opDiv (xVar 0) (xC (.int 3))) (xBin opSub (xCall opLen (aCons (xVar 8) (aNil))) (xC (.int 1)))) (aCons (xC (.int 0)) (aCons (xBin opSub (xCall opLen (aCons (xVar 8) (aNil))) (xC (.int 2))) (aNil))))) (b := xBin opMod (xVar 0) (xC (.int 3))) (env := [some (.int c2), x1, some (.ref 0), some (.ref 1), some (.ref 2), some (.ref 3), x6, x7, some (grpD groups), x9, x10, x11, x12, x13, x14]) (cs := cs) (i := c2 % 3)
      (by
        show M.bnd (aCons _ _ _) _ cs = _
        rw [M.bnd_ok (cons_ok (modB (divB (cs1 := cs) (var_at rfl) (b := 3) rfl ⟨by decide, by decide⟩) (subB (elen _ cs rfl) (b := 1) rfl) (by omega)) (cons_ok rfl (cons_ok (subB (elen _ cs rfl) (b := 2) rfl) rfl)))]
        rfl) (modB (cs1 := cs) (var_at rfl) (b := 3) rfl (by decide)) (by omega) (by show _ < ((3 : Nat) : Int); omega)
    have fin : ∀ v : Int, d = .int v → 0 ≤ v → v + 1 < groups.length → ∃ i : Nat, i + 1 < groups.length ∧ g1 [some (.int c2), x1, some (.ref 0), some (.ref 1), some (.ref 2), some (.ref 3), x6, x7, some (grpD groups), x9, x10, x11, x12, x13, x14] cs = .ok (.nx [some (.int c2), x1, some (.ref 0), some (.ref 1), some (.ref 2), some (.ref 3), x6, x7, some (grpD groups), some (.int (i : Nat)), x10, x11, x12, x13, x14]) cs := fun v hv v0 v1 => by
      subst hv
      refine ⟨v.toNat, by omega, ?_⟩
      rw [show ((v.toNat : Nat) : Int) = v by omega]
      exact asg_nm e
    simp only [List.mem_cons, List.not_mem_nil, or_false] at hd
    rcases hd with hd | hd | hd
    · have q1 := Int.emod_nonneg (c2 / 3) (show (groups.length : Int) - 1 ≠ 0 by omega)
      have q2 := Int.emod_lt_of_pos (c2 / 3) (show 0 < (groups.length : Int) - 1 by omega)
      exact fin _ hd q1 (by omega)
    · exact fin _ hd (by omega) (by omega)
    · exact fin _ hd (by omega) (by omega)
  have hs2 := split2 hi
  -- the two groups
  have hG := H
  rw [hs2] at hG
  obtain ⟨p1, p2⟩ := Tell.gc_append.mp hG.gc
  obtain ⟨a1, a2, a3, b1, b2, b3, _⟩ := p2
  obtain ⟨x1', x2', x3'⟩ := b3.facts
  have en : Tell.nextS (Tell.nextS 0 (groups.take i).flatten) groups[i] = groups[i].getLast a1 + 1 := Tell.nextS_last a1
  have lm := List.getLast_mem a1
  have hlt : ∀ x ∈ groups[i + 1], x < n := fun x hx => hG.lt x (by simp only [List.flatten_append, List.flatten_cons, List.mem_append]; exact .inr (.inr (.inl hx)))
  have hlow : groups[i].getLast a1 < n := hG.lt _ (by simp only [List.flatten_append, List.flatten_cons, List.mem_append]; exact .inr (.inl lm))
  obtain ⟨e', cs', is', e2, g9, g10, B2⟩ := lead_loop (m := m) (Q := groups[i + 1]) (low := groups[i].getLast a1) (a := Tell.nextS 0 (groups.take i).flatten) (it := itSeq (xBin opIx (xVar 8) (xBin (opAdd false) (xVar 9) (xC (.int 1))))) (b := sDrop (xCallM f__law_place (aCons (xVar 2) (aCons (xBin opIx (xBin opIx (xVar 8) (xVar 9)) (xUn opNeg (xC (.int 1)))) (aCons (xVar 10) (aCons (xVar 4) (aCons (xVar 5) (aNil)))))))) (j := 10)
    (env := [some (.int c2), x1, some (.ref 0), some (.ref 1), some (.ref 2), some (.ref 3), x6, x7, some (grpD groups), some (.int (i : Nat)), x10, x11, x12, x13, x14])
    (itSeq_ok (d := .lst (groups[i + 1].map natD)) ((bin_ok (var_at rfl) (show _ = Rs.ok (D.int ((i + 1 : Nat) : Int)) cs from rfl)).trans (grp_at hi)) rfl) (fun _ => rfl) (fun e k k' h he hl hp => by
      have v := fun q (hq : q ≠ 10) => (List.getElem?_set_ne (l := e) (a := some (D.int h)) (Ne.symm hq)).trans (he q hq)
      refine drop_nx (callM_ok (cons_ok (var_at (v 2 (by decide))) (cons_ok ((bin_ok ((bin_ok (var_at (v 8 (by decide))) (var_at (v 9 (by decide)))).trans (grp_at (by omega))) rfl).trans (last_lst a1)) (cons_ok (var_at (List.getElem?_set_self (by rw [hl]; exact (show 10 < 15 by decide)))) (cons_ok (var_at (v 4 (by decide))) (cons_ok (var_at (v 5 (by decide))) rfl))))) hp)) B H.I H.B hn hm hlow (a2 _ lm) (fun h hh => by
      have := (x2' h hh).1
      exact ⟨by omega, hlt h hh, by rw [b2 h hh, en]⟩) x3'
  have eE : ∃ y10, e' = [some (.int c2), x1, some (.ref 0), some (.ref 1), some (.ref 2), some (.ref 3), x6, x7, some (grpD groups), some (.int (i : Nat)), y10, x11, x12, x13, x14] := by
    have hl10 : 10 < e'.length := by rw [g10]; exact (show 10 < 15 by decide)
    refine ⟨e'[10], List.ext_getElem? fun q => ?_⟩
    by_cases hq : q = 10
    · rw [hq, List.getElem?_eq_getElem hl10]
      rfl
    · rw [g9 q hq]
      match q, hq with
      | 0, _ | 1, _ | 2, _ | 3, _ | 4, _ | 5, _ | 6, _ | 7, _ | 8, _ | 9, _ => rfl
      | 11, _ | 12, _ | 13, _ | 14, _ => rfl
      | q + 15, _ => rfl
  obtain ⟨y10, rfl⟩ := eE
  have flen : groups[i].length + groups[i + 1].length ≤ groups.flatten.length := by
    have := congrArg (fun z => z.flatten.length) hs2
    simp only [List.flatten_append, List.flatten_cons, List.length_append] at this
    omega
  have e3 : g3 [some (.int c2), x1, some (.ref 0), some (.ref 1), some (.ref 2), some (.ref 3), x6, x7, some (grpD groups), some (.int (i : Nat)), y10, x11, x12, x13, x14] cs' = .ok (.nx [some (.int c2), x1, some (.ref 0), some (.ref 1), some (.ref 2), some (.ref 3), x6, x7, some (grpD groups), some (.int (i : Nat)), y10, some (.lst ((groups[i] ++ groups[i + 1]).map natD)), x12, x13, x14]) cs' := by
    refine asg_nm ((bin_ok ((bin_ok (var_at rfl) (var_at rfl)).trans (grp_at (by omega))) ((bin_ok (var_at rfl) (show _ = Rs.ok (D.int ((i + 1 : Nat) : Int)) cs' from rfl)).trans (grp_at hi))).trans ?_)
    show (if szOk ((groups[i].map natD).length + (groups[i + 1].map natD).length) = true then (Rs.ok (D.lst (groups[i].map natD ++ groups[i + 1].map natD)) cs' : Rs D) else .no) = _
    rw [List.length_map, List.length_map, if_pos (show szOk _ = true from decide_eq_true (by omega)), List.map_append]
  have e4 : g4 [some (.int c2), x1, some (.ref 0), some (.ref 1), some (.ref 2), some (.ref 3), x6, x7, some (grpD groups), some (.int (i : Nat)), y10, some (.lst ((groups[i] ++ groups[i + 1]).map natD)), x12, x13, x14] cs' = .ok (.nx [some (.int c2), x1, some (.ref 0), some (.ref 1), some (.ref 2), some (.ref 3), x6, x7, some (grpD (groups.take i ++ (groups[i] ++ groups[i + 1]) :: groups.drop (i + 2))), some (.int (i : Nat)), y10, some (.lst ((groups[i] ++ groups[i + 1]).map natD)), x12, x13, x14]) cs' := by
    have q1 : xSl false (xVar 8) pNo (pSome (xVar 9)) [some (.int c2), x1, some (.ref 0), some (.ref 1), some (.ref 2), some (.ref 3), x6, x7, some (grpD groups), some (.int (i : Nat)), y10, some (.lst ((groups[i] ++ groups[i + 1]).map natD)), x12, x13, x14] cs' = .ok (.lst ((groups.take i).map fun g => .lst (g.map natD))) cs' := by
      show (Rs.ok (D.lst (G.cutD (groups.map fun g => D.lst (g.map natD)) none (some (i : Int)))) cs' : Rs D) = _
      rw [cut_take (by rw [List.length_map]; omega), List.map_take]
    have q2 : xSl false (xVar 8) (pSome (xBin (opAdd false) (xVar 9) (xC (.int 2)))) pNo [some (.int c2), x1, some (.ref 0), some (.ref 1), some (.ref 2), some (.ref 3), x6, x7, some (grpD groups), some (.int (i : Nat)), y10, some (.lst ((groups[i] ++ groups[i + 1]).map natD)), x12, x13, x14] cs' = .ok (.lst ((groups.drop (i + 2)).map fun g => .lst (g.map natD))) cs' := by
      show (Rs.ok (D.lst (G.cutD (groups.map fun g => D.lst (g.map natD)) (some (((i + 2 : Nat) : Int))) none)) cs' : Rs D) = _
      rw [cut_drop (by rw [List.length_map]; omega), List.map_drop]
    refine (asg_nm (d := grpD (groups.take i ++ (groups[i] ++ groups[i + 1]) :: groups.drop (i + 2))) (cs1 := cs') ?_).trans rfl
    have q3 : xBin (opAdd false) (xSl false (xVar 8) pNo (pSome (xVar 9))) (xLst false (aCons (xVar 11) aNil)) [some (.int c2), x1, some (.ref 0), some (.ref 1), some (.ref 2), some (.ref 3), x6, x7, some (grpD groups), some (.int (i : Nat)), y10, some (.lst ((groups[i] ++ groups[i + 1]).map natD)), x12, x13, x14] cs' = .ok (.lst ((groups.take i).map (fun g => .lst (g.map natD)) ++ [.lst ((groups[i] ++ groups[i + 1]).map natD)])) cs' := by
      refine (bin_ok q1 rfl).trans ?_
      show (if szOk (((groups.take i).map fun g => D.lst (g.map natD)).length + 1) = true then (Rs.ok (D.lst ((groups.take i).map (fun g => D.lst (g.map natD)) ++ [D.lst ((groups[i] ++ groups[i + 1]).map natD)])) cs' : Rs D) else .no) = _
      rw [if_pos (show szOk _ = true from decide_eq_true (by rw [List.length_map, List.length_take]; omega))]
    refine (bin_ok q3 q2).trans ?_
    show (if szOk (((groups.take i).map (fun g => D.lst (g.map natD)) ++ [D.lst ((groups[i] ++ groups[i + 1]).map natD)]).length + ((groups.drop (i + 2)).map fun g => D.lst (g.map natD)).length) = true then (Rs.ok (D.lst (((groups.take i).map (fun g => D.lst (g.map natD)) ++ [D.lst ((groups[i] ++ groups[i + 1]).map natD)]) ++ (groups.drop (i + 2)).map fun g => D.lst (g.map natD))) cs' : Rs D) else .no) = _
    rw [if_pos (show szOk _ = true from decide_eq_true (by rw [List.length_append, List.length_map, List.length_map, List.length_take, List.length_drop, List.length_cons, List.length_nil]; omega))]
    unfold grpD
    congr 2
    simp only [List.map_append, List.map_cons, List.append_assoc, List.cons_append, List.nil_append]
  refine ⟨c2, _, _, _, cs', is', _, _, (seq_nx e0).trans ((seq_nx e1).trans ((seq_nx e2).trans ((seq_nx e3).trans e4))), B2, hG.merge a1, ?_, ?_⟩
  · have := congrArg List.length hs2
    simp only [List.length_append, List.length_cons] at this ⊢
    omega
  · have := congrArg (fun z => z.flatten.length) hs2
    simp only [List.flatten_append, List.flatten_cons, List.length_append] at this ⊢
    omega
end LK
namespace LK
open L2 G PySem PySem.Spec PyProof.Rows
abbrev t6 : En → M Fl := sFor (itR1 (xBin opMod (xVar 0) (xC (.int 4)))) (.nm 7) (sAsg (xCallM f__law_thinner (aCons (xVar 2) (aCons (xVar 6) (aCons (xBin opDiv (xBin opDiv (xVar 0) (xC (.int 4))) (xBin (opAdd false) (xC (.int 1)) (xVar 7))) (aCons (xVar 4) (aCons (xVar 5) (aCons (xVar 3) (aNil)))))))) (.nm 6))
abbrev t7 : En → M Fl := sAsg (xLcN false (itSeq (xVar 6)) [13] (.nm 13) (bYes) (xLst false (aCons (xVar 13) (aNil)))) (.nm 8)
abbrev t8 : En → M Fl := sWhile (bVal (xBin opGt (xCall opLen (aCons (xVar 8) (aNil))) (xC (.int 1)))) gBody 70
abbrev t9 : En → M Fl := sFor (itRev (xVar 3)) (.tp [12, 10]) (sDrop (xCallM f__law_place (aCons (xVar 2) (aCons (xVar 12) (aCons (xVar 10) (aCons (xVar 4) (aCons (xVar 5) (aNil))))))))
abbrev t10 : En → M Fl := sRet (xLcN false (itSeq (xVar 2)) [14] (.nm 14) (bYes) (xLcN false (itSeq (xCall (opSorted false) (aCons (xVar 14) (aNil)))) [10, 12] (.tp [10, 12]) (bYes) (xTup (aCons (xVar 12) (aCons (xVar 10) (aNil))))))
abbrev t0 : En → M Fl := sAsg (xBin opMod (xBin (opMulX false) (xVar 0) (xC (.int 48271))) (xC (.int 2147483647))) (.nm 0)
theorem c_tell_eq : c__law_telling = sSeq t0 (sSeq (sAsg (xLst true (aNil)) (.nm 2)) (sSeq (sAsg (xLst true (aNil)) (.nm 3)) (sSeq (sAsg (xBin (opMulX true) (xLst false (aCons (xC (.int 0)) (aNil))) (xVar 1)) (.nm 4)) (sSeq (sAsg (xBin (opMulX true) (xLst false (aCons (xC (.int 0)) (aNil))) (xVar 1)) (.nm 5)) (sSeq (sAsg (xUn (opRg false false) (xVar 1)) (.nm 6)) (sSeq t6 (sSeq t7 (sSeq t8 (sSeq t9 t10))))))))) := rfl
/-- the active lines between turns -/
structure Tn (n m : Nat) (cs : Cs) (is : List Nat) (s : Tell.S) (left : List (Nat × Nat)) (act : List Nat) (ln : D) : Prop where
  B : Bk 0 2 3 1 cs is s left
  ls : seqOf cs ln = some (act.map natD)
  na : ∀ a, ln = .ref a → a ≠ 0 ∧ a ≠ 2 ∧ a ≠ 3 ∧ a ∉ is ∧ a ≠ 1
  H : Tell.Th n m (fun _ => False) s [] act left
theorem turns_ok {n : Nat} {c : Int} {cs : Cs} {is : List Nat} {s : Tell.S} {left : List (Nat × Nat)} {act : List Nat} {ln : D} {x7 x8 x9 x10 x11 x12 x13 x14 : Option D} (hn : n ≤ 64) (H : Tn n 0 cs is s left act ln) :
    ∃ (cs' : Cs) (is' : List Nat) (s' : Tell.S) (left' : List (Nat × Nat)) (act' : List Nat) (ln' : D) (m : Nat) (y7 : Option D), m ≤ 3 ∧
      t6 [some (.int c), some (.int n), some (.ref 0), some (.ref 1), some (.ref 2), some (.ref 3), some ln, x7, x8, x9, x10, x11, x12, x13, x14] cs = .ok (.nx [some (.int c), some (.int n), some (.ref 0), some (.ref 1), some (.ref 2), some (.ref 3), some ln', y7, x8, x9, x10, x11, x12, x13, x14]) cs' ∧ Tn n m cs' is' s' left' act' ln' := by
  have r0 := Int.emod_nonneg c (show (4 : Int) ≠ 0 by decide)
  have r1 := Int.emod_lt_of_pos c (show (0 : Int) < 4 by decide)
  have hi : itR1 (xBin opMod (xVar 0) (xC (.int 4))) [some (.int c), some (.int n), some (.ref 0), some (.ref 1), some (.ref 2), some (.ref 3), some ln, x7, x8, x9, x10, x11, x12, x13, x14] cs = .ok ⟨rngD 0 (c % 4).toNat, fun _ => true⟩ cs := by
    show M.bnd _ _ cs = _
    rw [M.bnd_ok (modB (cs1 := cs) (var_at rfl) (b := 4) rfl (by decide))]
    show (if small62 (c % 4) = true then M.ret (It0.mk (rngD 0 (c % 4).toNat) fun _ => true) else M.no) cs = _
    rw [if_pos (show small62 (c % 4) = true from decide_eq_true ⟨by omega, by omega⟩)]
    rfl
  obtain ⟨e', cs', h1, cs2, is', s', left', act', ln', y7, he, hcs, hT⟩ := for_inv (t := .nm 7) (b := sAsg (xCallM f__law_thinner (aCons (xVar 2) (aCons (xVar 6) (aCons (xBin opDiv (xBin opDiv (xVar 0) (xC (.int 4))) (xBin (opAdd false) (xC (.int 1)) (xVar 7))) (aCons (xVar 4) (aCons (xVar 5) (aCons (xVar 3) (aNil)))))))) (.nm 6))
    (fun k env k1 => ∃ (cs2 : Cs) (is' : List Nat) (s' : Tell.S) (left' : List (Nat × Nat)) (act' : List Nat) (ln' : D) (y7 : Option D), env = [some (.int c), some (.int n), some (.ref 0), some (.ref 1), some (.ref 2), some (.ref 3), some ln', y7, x8, x9, x10, x11, x12, x13, x14] ∧ k1 = cs2 ∧ Tn n k cs2 is' s' left' act' ln') hi (fun _ _ _ _ => rfl) (fun k x env k1 hx hI => by
      obtain ⟨cs2, is', s', left', act', ln', y7, rfl, rfl, hT⟩ := hI
      obtain ⟨hk, rfl⟩ := rngD_get hx
      refine ⟨_, rfl, ?_⟩
      obtain ⟨a1, a2, a3, a4⟩ := hT.B.lf
      obtain ⟨cs3, is3, s3, left3, act3, T3, e3, H3, Th3, hl3⟩ := thinner_ok (c := c / 4 / (1 + (0 + (k : Nat)))) hT.B.R hT.B.lc hT.ls hT.B.lf hT.na hT.H hn (by omega)
      refine ⟨_, cs3, asg_nm (callM_ok (cons_ok (var_at rfl) (cons_ok (var_at rfl) (cons_ok (divB (divB (cs1 := k1) (var_at rfl) (b := 4) rfl ⟨by decide, by decide⟩) (b := 1 + (0 + (k : Nat))) rfl ⟨by omega, by omega⟩) (cons_ok (var_at rfl) (cons_ok (var_at rfl) (cons_ok (var_at rfl) rfl)))))) e3), cs3, is3, s3, left3, act3, .ref k1.length, _, rfl, rfl, ⟨⟨H3.R, H3.lc, H3.lf⟩, H3.wc, fun a ha => ?_, Th3.turn⟩⟩
      cases ha
      obtain ⟨b1, b2, b3, b4⟩ := H3.wf
      exact ⟨b1, b2, b3, b4, Ne.symm H3.lw⟩) ⟨cs, is, s, left, act, ln, x7, rfl, rfl, H⟩
  subst he hcs
  refine ⟨_, is', s', left', act', ln', (rngD 0 (c % 4).toNat).length, y7, ?_, h1, hT⟩
  unfold rngD
  rw [List.length_map, List.length_range]
  omega
theorem groups_ok {cs : Cs} {act : List Nat} {ln : D} {x0 x1 x2 x3 x4 x5 x7 x8 x9 x10 x11 x12 x13 x14 : Option D} (ls : seqOf cs ln = some (act.map natD)) (hz : act.length ≤ 64) :
    t7 [x0, x1, x2, x3, x4, x5, some ln, x7, x8, x9, x10, x11, x12, x13, x14] cs = .ok (.nx [x0, x1, x2, x3, x4, x5, some ln, x7, some (grpD (act.map fun a => [a])), x9, x10, x11, x12, x13, x14]) cs := by
  refine (asg_nm (d := grpD (act.map fun a => [a])) (cs1 := cs) ?_).trans rfl
  rw [lc_map (fun d => .lst [d]) (itSeq_ok (var_at rfl) ls) (live_self ls) (decide_eq_true (by rw [List.length_map]; omega)) fun x hx => ⟨_, rfl, rfl⟩]
  show (Rs.ok (D.lst ((act.map natD).map fun d => .lst [d])) cs : Rs D) = _
  unfold grpD
  rw [List.map_map, List.map_map]
  rfl
theorem merges_ok {n m : Nat} {c : Int} {cs : Cs} {is : List Nat} {s : Tell.S} {left : List (Nat × Nat)} {groups : List (List Nat)} {x1 x6 x7 x9 x10 x11 x12 x13 x14 : Option D}
    (B : Bk 0 2 3 1 cs is s left) (H : Tell.Gr n m s groups left) (hn : n ≤ 64) (hm : m ≤ 100) (h1 : 0 < groups.length) (hz : groups.length ≤ 64) (hgl : groups.flatten.length ≤ 64) :
    ∃ (c' : Int) (y9 y10 y11 : Option D) (cs' : Cs) (is' : List Nat) (s' : Tell.S) (g : List Nat) (m' : Nat), m' + 1 = m + groups.length ∧
      t8 [some (.int c), x1, some (.ref 0), some (.ref 1), some (.ref 2), some (.ref 3), x6, x7, some (grpD groups), x9, x10, x11, x12, x13, x14] cs = .ok (.nx [some (.int c'), x1, some (.ref 0), some (.ref 1), some (.ref 2), some (.ref 3), x6, x7, some (grpD [g]), y9, y10, y11, x12, x13, x14]) cs' ∧
      Bk 0 2 3 1 cs' is' s' left ∧ Tell.Gr n m' s' [g] left := by
  have test : ∀ (e : En) (k : Cs) (gs : List (List Nat)), e[8]? = some (some (grpD gs)) → (bVal (xBin opGt (xCall opLen (aCons (xVar 8) (aNil))) (xC (.int 1)))) e k = .ok (decide (1 < gs.length)) k := fun e k gs he => by
    refine val_b ?_
    rw [bin_ok (len_seq (xs := gs.map fun g => .lst (g.map natD)) (var_at he) rfl) (show _ = Rs.ok (D.int 1) k from rfl), List.length_map]
    show (Rs.ok (D.bl (decide ((1 : Int) < (gs.length : Nat)))) k : Rs D) = _
    congr 2
    exact decide_eq_decide.mpr (by omega)
  obtain ⟨j', e', cs', hw, ⟨c', y9, y10, y11, is', s', gs, m', he, B', H', k1, k2, k3, k4⟩, ht⟩ := while_inv (t := bVal (xBin opGt (xCall opLen (aCons (xVar 8) (aNil))) (xC (.int 1)))) (b := gBody)
    (fun j env k => ∃ (c' : Int) (y9 y10 y11 : Option D) (is' : List Nat) (s' : Tell.S) (gs : List (List Nat)) (m' : Nat), env = [some (.int c'), x1, some (.ref 0), some (.ref 1), some (.ref 2), some (.ref 3), x6, x7, some (grpD gs), y9, y10, y11, x12, x13, x14] ∧ Bk 0 2 3 1 k is' s' left ∧ Tell.Gr n m' s' gs left ∧ m' + gs.length = m + groups.length ∧ gs.length + j = groups.length ∧ 0 < gs.length ∧ gs.flatten.length ≤ 64) groups.length (fun j env k hI => by
      obtain ⟨c', y9, y10, y11, is', s', gs, m', rfl, B', H', k1, k2, k3, k4⟩ := hI
      refine ⟨_, test _ k gs rfl, fun hk => ?_⟩
      have hg := of_decide_eq_true hk
      obtain ⟨c2, z9, z10, z11, cs2, is2, s2, gs2, e2, B2, H2, l2, l3⟩ := gBody_ok (c := c') (x1 := x1) (x6 := x6) (x7 := x7) (x9 := y9) (x10 := y10) (x11 := y11) (x12 := x12) (x13 := x13) (x14 := x14) B' H' hn (by omega) hg (by omega) k4
      exact ⟨by omega, j + 1, _, cs2, Nat.lt_succ_self _, e2, c2, z9, z10, z11, is2, s2, gs2, m' + 1, rfl, B2, H2, by omega, by omega, by omega, by omega⟩) 70 0 _ cs ⟨c, x9, x10, x11, is, s, groups, m, rfl, B, H, rfl, rfl, h1, hgl⟩ (by omega) (by decide)
  subst he
  have t2 := test [some (.int c'), x1, some (.ref 0), some (.ref 1), some (.ref 2), some (.ref 3), x6, x7, some (grpD gs), y9, y10, y11, x12, x13, x14] cs' gs rfl
  rw [t2] at ht
  have hle := of_decide_eq_false (Rs.ok.inj ht).1
  match gs, k3, hle, hw, H', k1 with
  | [g], _, _, hw, H', k1 => exact ⟨c', y9, y10, y11, cs', is', s', g, m', by simpa using k1, hw, B', H'⟩
  | _ :: _ :: _, _, hle, _, _, _ => exact absurd hle (by simp)
end LK
namespace LK
open L2 G PySem PySem.Spec PyProof.Rows
theorem lok_mem {n : Nat} : ∀ {l : List (Nat × Nat)} {R : Nat → Prop} {v : Tell.St}, Tell.LOk n R v l → ∀ q ∈ l, q.1 < q.2 ∧ q.2 < n
  | [], _, _, _, q, hq => by cases hq
  | (p, x) :: l, R, v, h, q, hq => by
    obtain ⟨h1, h2, h3, h4, h5, h6⟩ := h
    rcases List.mem_cons.mp hq with e | e
    · rw [e]
      exact ⟨h2, h3⟩
    · exact lok_mem h6 q e
theorem fold_inv {n : Nat} : ∀ {l : List (Nat × Nat)} {s : Tell.S} {m : Nat}, (∀ q ∈ l, q.1 < q.2 ∧ q.2 < n) → Tell.Inv n s → Tell.Bd m (fun _ => False) s → Tell.Inv n (l.foldl (fun s q => Tell.place s q.1 q.2) s) ∧ Tell.Bd (m + l.length) (fun _ => False) (l.foldl (fun s q => Tell.place s q.1 q.2) s)
  | [], s, m, _, I, B => ⟨I, B⟩
  | q :: l, s, m, h, I, B => by
    obtain ⟨h1, h2⟩ := h q List.mem_cons_self
    obtain ⟨a, b⟩ := fold_inv (l := l) (fun x hx => h x (List.mem_cons_of_mem _ hx)) (Tell.place_inv I h1 h2) (Tell.place_bd I B (fun z => z) (fun z => z)).next
    refine ⟨a, ?_⟩
    rw [show m + (q :: l).length = m + 1 + l.length by rw [List.length_cons]; omega]
    exact b
theorem itRev_ok {m : En → M D} {env : En} {cs cs1 : Cs} {d : D} {xs : List D} (h : m env cs = .ok d cs1) (hs : seqOf cs1 d = some xs) : itRev m env cs = .ok ⟨xs.reverse, liveOf xs d⟩ cs1 := by
  show M.bnd (m env) _ cs = _
  rw [M.bnd_ok h]
  show (match seqOf cs1 d with
    | some xs => Rs.ok (It0.mk xs.reverse (liveOf xs d)) cs1
    | none => .no) = _
  rw [hs]
theorem lefts_ok {n m : Nat} {cs : Cs} {is : List Nat} {s : Tell.S} {left : List (Nat × Nat)} {g : List Nat} {x0 x1 x6 x7 x8 x9 x10 x11 x12 x13 x14 : Option D} (B : Bk 0 2 3 1 cs is s left) (H : Tell.Gr n m s [g] left) (hn : n ≤ 64) (hm : m + left.length ≤ 500) :
    ∃ (y10 y12 : Option D) (cs' : Cs) (is' : List Nat), t9 [x0, x1, some (.ref 0), some (.ref 1), some (.ref 2), some (.ref 3), x6, x7, x8, x9, x10, x11, x12, x13, x14] cs = .ok (.nx [x0, x1, some (.ref 0), some (.ref 1), some (.ref 2), some (.ref 3), x6, x7, x8, x9, y10, x11, y12, x13, x14]) cs' ∧
      Bk 0 2 3 1 cs' is' (left.reverse.foldl (fun s q => Tell.place s q.1 q.2) s) left := by
  have lm := lok_mem H.ok
  obtain ⟨e', cs', h1, ⟨y10, y12, he⟩, is', hB⟩ := for_inv (t := .tp [12, 10]) (b := sDrop (xCallM f__law_place (aCons (xVar 2) (aCons (xVar 12) (aCons (xVar 10) (aCons (xVar 4) (aCons (xVar 5) (aNil)))))))) (it := itRev (xVar 3)) (env := [x0, x1, some (.ref 0), some (.ref 1), some (.ref 2), some (.ref 3), x6, x7, x8, x9, x10, x11, x12, x13, x14]) (cs := cs)
    (fun k env c => (∃ y10 y12, env = [x0, x1, some (.ref 0), some (.ref 1), some (.ref 2), some (.ref 3), x6, x7, x8, x9, y10, x11, y12, x13, x14]) ∧ ∃ is', Bk 0 2 3 1 c is' ((left.reverse.take k).foldl (fun s q => Tell.place s q.1 q.2) s) left)
    (itRev_ok (d := .ref 1) (xs := left.map lfD) (var_at rfl) B.lc) (fun k env c hI => by
      obtain ⟨_, is', hB⟩ := hI
      exact live_self (ln := .ref 1) hB.lc) (fun k x env c hx hI => by
      obtain ⟨⟨y10, y12, rfl⟩, is', hB⟩ := hI
      rw [← List.map_reverse, List.getElem?_map] at hx
      cases q : left.reverse[k]? with
      | none =>
        rw [q] at hx
        cases hx
      | some p =>
        rw [q] at hx
        cases hx
        obtain ⟨p1, p2⟩ := lm p (List.mem_of_getElem? q)
        obtain ⟨Ik, Bk'⟩ := fold_inv (l := left.reverse.take k) (fun x hx => lm x (List.mem_of_mem_take hx)) H.I H.B
        have hlk : (left.reverse.take k).length ≤ left.length := by
          rw [List.length_take, List.length_reverse]
          omega
        obtain ⟨c', is2, ep, B2⟩ := hB.place Ik hn (by have := Bk'.l; omega) (low := p.1) (high := p.2) (by omega) p2
        refine ⟨_, rfl, _, c', drop_nx (callM_ok (cons_ok (var_at rfl) (cons_ok (var_at rfl) (cons_ok (var_at rfl) (cons_ok (var_at rfl) (cons_ok (var_at rfl) rfl))))) ep), ⟨_, _, rfl⟩, is2, ?_⟩
        rw [List.take_succ, q]
        show Bk 0 2 3 1 c' is2 ((left.reverse.take k ++ [p]).foldl _ s) left
        rw [List.foldl_append]
        exact B2) ⟨⟨x10, x12, rfl⟩, is, B⟩
  subst he
  rw [List.length_reverse, List.length_map, ← List.length_reverse, List.take_length] at hB
  exact ⟨y10, y12, cs', is', h1, hB⟩
/-! ### what it tells back -/
def jtZ (p : Tell.Jt) : Int × Int := ((p.1 : Int), (p.2 : Int))
def swp (q : Int × Int) : Int × Int := (q.2, q.1)
def layOf (L : List Tell.Jt) : List (Int × Int) := (sortP (L.map jtZ)).map swp
def tellN (s : Tell.S) : Net := s.found.map layOf
theorem pairsOf_jt : ∀ L : List Tell.Jt, G.pairsOf (L.map jtD) = some (L.map jtZ)
  | [] => rfl
  | p :: L => by
    show (G.pairsOf (L.map jtD)).map (_ :: ·) = _
    rw [pairsOf_jt L]
    rfl
def gLay (cs : Cs) : D → D
  | .ref i => .lst (layD (match (cs[i]?).bind G.pairsOf with
    | some ps => (sortP ps).map swp
    | none => []))
  | d => d
theorem gLay_at {cs : Cs} {i : Nat} {L : List Tell.Jt} (h : cs[i]? = some (L.map jtD)) : gLay cs (.ref i) = .lst (layD (layOf L)) := by
  show D.lst (layD (match (cs[i]?).bind G.pairsOf with
    | some ps => (sortP ps).map swp
    | none => [])) = _
  rw [h, Option.bind_some, pairsOf_jt]
  rfl
def gSw : D → D
  | .tup [.int h, .int l] => .tup [.int l, .int h]
  | d => d
theorem t10_ok {n f d r : Nat} {cs : Cs} {is : List Nat} {s : Tell.S} {x0 x1 x3 x4 x5 x6 x7 x8 x9 x10 x11 x12 x13 x14 : Option D} (R : Rel f d r cs is s) (I : Tell.Inv n s) (hn : n ≤ 64) (hs : s.found.length ≤ 1000) :
    t10 [x0, x1, some (.ref f), x3, x4, x5, x6, x7, x8, x9, x10, x11, x12, x13, x14] cs = .ok (.rt (netD (tellN s))) cs := by
  refine ret_rt ?_
  rw [lc_map (gLay cs) (itSeq_ok (d := .ref f) (var_at rfl) R.fc) (live_self (ln := .ref f) R.fc) (decide_eq_true (by rw [List.length_map, R.il]; omega)) fun x hx => ?_]
  · show (Rs.ok (D.lst ((is.map D.ref).map (gLay cs))) cs : Rs D) = _
    have e : (is.map D.ref).map (gLay cs) = (tellN s).map fun xs => .lst (layD xs) := by
      apply List.ext_getElem?
      intro j
      unfold tellN
      rw [List.map_map, List.getElem?_map, List.map_map, List.getElem?_map]
      by_cases hj : j < is.length
      · have hjl : j < s.found.length := by rw [← R.il]; exact hj
        rw [List.getElem?_eq_getElem hj, List.getElem?_eq_getElem hjl]
        show some (gLay cs (.ref is[j])) = some (D.lst (layD (layOf s.found[j])))
        rw [gLay_at (R.lc j is[j] s.found[j] (List.getElem?_eq_getElem hj) (List.getElem?_eq_getElem hjl))]
      · rw [List.getElem?_eq_none (by omega), List.getElem?_eq_none (by rw [← R.il]; omega)]
        rfl
    rw [e]
    rfl
  · obtain ⟨i, hi, rfl⟩ := List.mem_map.mp hx
    obtain ⟨j, hj⟩ := List.mem_iff_getElem?.mp hi
    have hjl : j < s.found.length := by
      rw [← R.il]
      exact (List.getElem?_eq_some_iff.mp hj).1
    have hc := R.lc j i _ hj (List.getElem?_eq_getElem hjl)
    have hlen := lay_len I s.found[j] (List.getElem_mem hjl)
    refine ⟨_, rfl, ?_⟩
    have es : xCall (opSorted false) (aCons (xVar 14) aNil) [x0, x1, some (.ref f), x3, x4, x5, x6, x7, x8, x9, x10, x11, x12, x13, some (.ref i)] cs = .ok (.lst ((sortP (s.found[j].map jtZ)).map G.pairD)) cs := by
      rw [call_ok (cons_ok (var_at rfl) rfl)]
      show (match (cs[i]?).bind G.pairsOf with
        | some ps => mkL false ((sortP ps).map G.pairD) cs
        | none => .no) = _
      rw [hc, Option.bind_some, pairsOf_jt]
      rfl
    refine (lc_map gSw (itSeq_ok es rfl) rfl (decide_eq_true (by rw [List.length_map, (sortP_perm _).length_eq, List.length_map]; omega)) fun x hx => ?_).trans ?_
    · obtain ⟨q, hq, rfl⟩ := List.mem_map.mp hx
      exact ⟨_, rfl, rfl⟩
    · show (Rs.ok (D.lst (((sortP (s.found[j].map jtZ)).map G.pairD).map gSw)) cs : Rs D) = _
      rw [gLay_at hc]
      unfold layD layOf
      rw [List.map_map, List.map_map]
      rfl
end LK
namespace LK
open L2 G PySem PySem.Spec PyProof.Rows
theorem rep0 : ∀ n : Nat, (List.replicate n [D.int 0]).flatten = (List.replicate n 0).map natD
  | 0 => rfl
  | n + 1 => by
    rw [List.replicate_succ, List.flatten_cons, rep0 n]
    rfl
theorem rng0 (n : Nat) : rngD 0 n = (List.range n).map natD := by
  unfold rngD
  refine List.map_congr_left fun i _ => ?_
  show D.int (0 + (i : Int)) = D.int i
  rw [Int.zero_add]
theorem zeros_ok {n : Nat} {x0 x2 x3 x4 x5 x6 x7 x8 x9 x10 x11 x12 x13 x14 : Option D} {cs : Cs} (hn : n ≤ 64) : xBin (opMulX true) (xLst false (aCons (xC (.int 0)) (aNil))) (xVar 1) [x0, some (.int n), x2, x3, x4, x5, x6, x7, x8, x9, x10, x11, x12, x13, x14] cs = .ok (.ref cs.length) (cs ++ [(List.replicate n 0).map natD]) := by
  refine (bin_ok (x := .lst [.int 0]) (cs1 := cs) rfl (var_at rfl)).trans ?_
  have hc : (decide (-(2 ^ 63) ≤ (n : Int) ∧ (n : Int) < 2 ^ 63) && szOk ([D.int 0].length * (n : Int).toNat)) = true := Bool.and_eq_true_iff.mpr ⟨decide_eq_true ⟨by omega, by omega⟩, decide_eq_true (by simp; omega)⟩
  have e2 : opMulX true (.lst [.int 0]) (.int (n : Nat)) cs = (if (decide (-(2 ^ 63) ≤ (n : Int) ∧ (n : Int) < 2 ^ 63) && szOk ([D.int 0].length * (n : Int).toNat)) = true then mkL true (List.replicate (n : Int).toNat [D.int 0]).flatten cs else .no) := by
    unfold opMulX opMul
    rfl
  rw [e2, if_pos hc, Int.toNat_natCast, rep0]
  rfl
theorem range_ok {n : Nat} {cs : Cs} (hn : n ≤ 64) : opRg false false (.int (n : Nat)) cs = .ok (.lst ((List.range n).map natD)) cs := by
  have h : rgOk 0 (n : Int) = true := Bool.and_eq_true_iff.mpr ⟨decide_eq_true ⟨by omega, by omega, by omega, by omega⟩, decide_eq_true (by omega)⟩
  have e2 : opRg false false (.int (n : Nat)) = (if rgOk 0 (n : Int) = true then mkL false (rngD 0 ((n : Int) - 0).toNat) else M.no) := by
    unfold opRg
    simp
  rw [e2, if_pos h, Int.sub_zero, Int.toNat_natCast, rng0]
  rfl
theorem rs_lay (r : Nat → Option D) : ∀ xs : List (Int × Int), rsGL r (layD xs) = some (layD xs)
  | [] => rfl
  | p :: xs => by
    show (match rsG r (G.pairD p), rsGL r (layD xs) with
      | some p, some ps => some (p :: ps)
      | _, _ => none) = _
    rw [rs_lay r xs]
    rfl
theorem rs_net (r : Nat → Option D) : ∀ N : Net, rsGL r (N.map fun xs => D.lst (layD xs)) = some (N.map fun xs => D.lst (layD xs))
  | [] => rfl
  | xs :: N => by
    show (match (rsGL r (layD xs)).map D.lst, rsGL r (N.map fun xs => D.lst (layD xs)) with
      | some p, some ps => some (p :: ps)
      | _, _ => none) = _
    rw [rs_net r N, rs_lay r xs]
    rfl
theorem res_net (cs : Cs) (N : Net) : res cs (netD N) = some (netD N) := by
  show (rsGL _ (N.map fun xs => D.lst (layD xs))).map D.lst = _
  rw [rs_net]
  rfl
/-- what the law lays: a net, of few layers, that tells -/
theorem telling_ok (cell : Int) {n : Nat} (h1 : 1 ≤ n) (hn : n ≤ 64) : ∃ s : Tell.S, f__law_telling [.int cell, .int (n : Nat)] = .ok (netD (tellN s)) ∧ Tell.Inv n s ∧ s.found.length ≤ n + 4 ∧ ∀ y, y < n → s.v y = some (0, y) := by
  have e0 : t0 [some (.int cell), some (.int (n : Nat)), none, none, none, none, none, none, none, none, none, none, none, none, none] [] = .ok (.nx [some (.int (cell * 48271 % 2147483647)), some (.int (n : Nat)), none, none, none, none, none, none, none, none, none, none, none, none, none]) [] :=
    asg_nm (modB (mulB (cs1 := []) (var_at rfl) (b := 48271) rfl (.inr ⟨by decide, by decide⟩)) (b := 2147483647) rfl (by decide))
  generalize cell * 48271 % 2147483647 = c at e0
  have Z : Tn n 0 [[], [], (List.replicate n 0).map natD, (List.replicate n 0).map natD] [] ⟨[], List.replicate n 0, List.replicate n 0⟩ [] (List.range n) (.lst ((List.range n).map natD)) := by
    refine ⟨⟨⟨rfl, rfl, fun j i L hj => by simp at hj, rfl, rfl, List.nodup_nil, by simp, by simp, by simp, by decide, by decide, by decide⟩, rfl, by decide, by decide, by decide, by simp⟩, rfl, (fun a ha => by cases ha), Tell.Th.start n h1⟩
  obtain ⟨cs6, is6, s6, left, act, ln, m, y7, hm, e6, H6⟩ := turns_ok (c := c) (x7 := none) (x8 := none) (x9 := none) (x10 := none) (x11 := none) (x12 := none) (x13 := none) (x14 := none) hn Z
  have hcn := H6.H.cn
  rw [List.nil_append] at hcn
  have hnz := H6.H.nz
  rw [List.nil_append] at hnz
  have hpos : 0 < act.length := List.length_pos_iff.mpr hnz
  have e7 := groups_ok (cs := cs6) (act := act) (ln := ln) (x0 := some (.int c)) (x1 := some (.int (n : Nat))) (x2 := some (.ref 0)) (x3 := some (.ref 1)) (x4 := some (.ref 2)) (x5 := some (.ref 3)) (x7 := y7) (x8 := none) (x9 := none) (x10 := none) (x11 := none) (x12 := none) (x13 := none) (x14 := none) H6.ls (by omega)
  have G7 := H6.H.flip.groups
  obtain ⟨c8, y9, y10, y11, cs8, is8, s8, g, m8, hm8, e8, B8, G8⟩ := merges_ok (c := c) (x1 := some (.int (n : Nat))) (x6 := some ln) (x7 := y7) (x9 := none) (x10 := none) (x11 := none) (x12 := none) (x13 := none) (x14 := none) H6.B G7 hn (by omega) (by rw [List.length_map]; exact hpos) (by rw [List.length_map]; omega) (by rw [Tell.flat_single]; omega)
  rw [List.length_map] at hm8
  obtain ⟨z10, z12, cs9, is9, e9, B9⟩ := lefts_ok (x0 := some (.int c8)) (x1 := some (.int (n : Nat))) (x6 := some ln) (x7 := y7) (x8 := some (grpD [g])) (x9 := y9) (x10 := y10) (x11 := y11) (x12 := none) (x13 := none) (x14 := none) B8 G8 hn (by omega)
  obtain ⟨I9, L9, V9⟩ := G8.ends
  have e10 := t10_ok (x0 := some (.int c8)) (x1 := some (.int (n : Nat))) (x3 := some (.ref 1)) (x4 := some (.ref 2)) (x5 := some (.ref 3)) (x6 := some ln) (x7 := y7) (x8 := some (grpD [g])) (x9 := y9) (x10 := z10) (x11 := y11) (x12 := z12) (x13 := none) (x14 := none) B9.R I9 hn (by omega)
  refine ⟨_, runP_rt (d := netD (tellN (left.reverse.foldl (fun s q => Tell.place s q.1 q.2) s8))) (cs := cs9) ?_ (res_net _ _), I9, by omega, V9⟩
  show c__law_telling [some (.int cell), some (.int (n : Nat)), none, none, none, none, none, none, none, none, none, none, none, none, none] [] = _
  rw [c_tell_eq]
  refine (seq_nx e0).trans ?_
  refine (seq_nx (asg_nm (d := .ref 0) (cs1 := [[]]) rfl)).trans ?_
  refine (seq_nx (asg_nm (d := .ref 1) (cs1 := [[], []]) rfl)).trans ?_
  refine (seq_nx (asg_nm (zeros_ok (n := n) hn))).trans ?_
  refine (seq_nx (asg_nm (zeros_ok (n := n) hn))).trans ?_
  refine (seq_nx (asg_nm (d := .lst ((List.range n).map natD)) (cs1 := [[], [], (List.replicate n 0).map natD, (List.replicate n 0).map natD]) ((un_ok (var_at rfl)).trans (range_ok hn)))).trans ?_
  exact (seq_nx e6).trans ((seq_nx e7).trans ((seq_nx e8).trans ((seq_nx e9).trans e10)))
end LK
namespace Tell
theorem layGo_mem {v : St} : ∀ {L : List Jt} {now : St} {q : Jt}, (L.map (·.1)).Nodup → q ∈ L → layGo v L now q.1 = join (v q.2) (v q.1)
  | p :: L, now, q, nd, hq => by
    obtain ⟨n1, n2⟩ := List.nodup_cons.mp (show (p.1 :: L.map (·.1)).Nodup from nd)
    show layGo v L (upd now p.1 (join (v p.2) (v p.1))) q.1 = _
    rcases List.mem_cons.mp hq with e | e
    · subst e
      rw [layGo_other fun r hr z => n1 (by rw [← z]; exact List.mem_map.mpr ⟨r, hr, rfl⟩), upd_same]
    · exact layGo_mem n2 e
theorem layer_perm {v : St} {L M : List Jt} (h : M.Perm L) (nd : (L.map (·.1)).Nodup) : layerS v M = layerS v L := by
  have nd2 : (M.map (·.1)).Nodup := (h.map (·.1)).nodup_iff.mpr nd
  funext x
  unfold layerS
  by_cases hx : ∃ q ∈ L, q.1 = x
  · obtain ⟨q, hq, rfl⟩ := hx
    rw [layGo_mem nd hq, layGo_mem nd2 (h.mem_iff.mpr hq)]
  · rw [layGo_other fun q hq z => hx ⟨q, hq, z⟩, layGo_other fun q hq z => hx ⟨q, h.mem_iff.mp hq, z⟩]
end Tell
namespace LK
open L2 G PySem PySem.Spec PyProof.Rows
/-- a net over numbers of lines: joints (low, high) -/
abbrev NatNet := List (List (Nat × Nat))
def natN (N : NatNet) : Net := N.map fun L => L.map fun p => ((p.1 : Int), (p.2 : Int))
def swN (L : List (Nat × Nat)) : List Tell.Jt := L.map fun p => (p.2, p.1)
/-- what holds of a net as the document has it -/
structure Valid (n : Nat) (N : NatNet) : Prop where
  ne : ∀ L ∈ N, L ≠ []
  up : ∀ L ∈ N, L.Pairwise fun a b => a.2 < b.2
  rg : ∀ L ∈ N, ∀ p ∈ L, p.1 < p.2 ∧ p.2 < n
def natJ (q : Int × Int) : Nat × Nat := (q.2.toNat, q.1.toNat)
theorem sort_nat (L : List Tell.Jt) : ∃ M : List (Nat × Nat), layOf L = M.map (fun p => ((p.1 : Int), (p.2 : Int))) ∧ (swN M).Perm L ∧ (sortP (L.map jtZ)) = M.map fun p => ((p.2 : Int), (p.1 : Int)) := by
  have hp := sortP_perm (L.map jtZ)
  refine ⟨(sortP (L.map jtZ)).map natJ, ?_, ?_, ?_⟩
  · unfold layOf
    rw [List.map_map]
    refine List.map_congr_left fun q hq => ?_
    obtain ⟨p, _, rfl⟩ := List.mem_map.mp (hp.mem_iff.mp hq)
    rfl
  · unfold swN
    rw [List.map_map]
    have := hp.map fun q : Int × Int => (q.1.toNat, q.2.toNat)
    rw [List.map_map] at this
    have e : L.map ((fun q : Int × Int => (q.1.toNat, q.2.toNat)) ∘ jtZ) = L := by
      rw [show ((fun q : Int × Int => (q.1.toNat, q.2.toNat)) ∘ jtZ) = id from rfl, List.map_id]
    rw [e] at this
    exact this
  · rw [List.map_map]
    refine ((List.map_id _).symm.trans (List.map_congr_left fun q hq => ?_))
    obtain ⟨p, _, rfl⟩ := List.mem_map.mp (hp.mem_iff.mp hq)
    rfl
theorem lay_valid {n : Nat} {L : List Tell.Jt} {M : List (Nat × Nat)} (h1 : (swN M).Perm L) (h2 : sortP (L.map jtZ) = M.map fun p => ((p.2 : Int), (p.1 : Int))) (nd : (L.map (·.1)).Nodup) (rg : ∀ q ∈ L, q.2 < q.1 ∧ q.1 < n) (ne : L ≠ []) :
    M ≠ [] ∧ (M.Pairwise fun a b => a.2 < b.2) ∧ ∀ p ∈ M, p.1 < p.2 ∧ p.2 < n := by
  have mem : ∀ p ∈ M, (p.2, p.1) ∈ L := fun p hp => h1.mem_iff.mp (List.mem_map.mpr ⟨p, hp, rfl⟩)
  refine ⟨fun e => ?_, ?_, fun p hp => ?_⟩
  · subst e
    exact ne (List.Perm.nil_eq h1).symm
  · have s1 := sortP_sorted (L.map jtZ)
    rw [h2, List.pairwise_map] at s1
    have nd2 : (M.map (·.2)).Nodup := by
      have e := (h1.map (·.1)).nodup_iff.mpr nd
      unfold swN at e
      rw [List.map_map] at e
      exact e
    have s2 := (List.pairwise_map.mp nd2)
    refine (s1.and s2).imp ?_
    rintro a b ⟨q1, q2⟩
    unfold lexLe at q1
    have q1 := of_decide_eq_true q1
    dsimp only at q1
    rcases q1 with q | ⟨q, _⟩
    · omega
    · exact absurd (show a.2 = b.2 by omega) q2
  · exact rg _ (mem p hp)
/-- layer by layer the same joints -/
inductive Alike : NatNet → List (List Tell.Jt) → Prop
  | nil : Alike [] []
  | cons {M : List (Nat × Nat)} {L : List Tell.Jt} {N : NatNet} {F : List (List Tell.Jt)} : (swN M).Perm L → Alike N F → Alike (M :: N) (L :: F)
theorem net_all {v : Tell.St} : ∀ {F : List (List Tell.Jt)} {N : NatNet}, Alike N F → (∀ L ∈ F, (L.map (·.1)).Nodup) → Tell.netS v (N.map swN) = Tell.netS v F
  | [], [], _, _ => rfl
  | L :: F, M :: N, .cons h t, nd => by
    show Tell.netS (Tell.layerS v (swN M)) (N.map swN) = Tell.netS (Tell.layerS v L) F
    rw [Tell.layer_perm h (nd L List.mem_cons_self), net_all t fun K hK => nd K (List.mem_cons_of_mem _ hK)]
theorem tell_net {n : Nat} : ∀ {F : List (List Tell.Jt)}, (∀ L ∈ F, L ≠ []) → (∀ L ∈ F, (L.map (·.1)).Nodup) → (∀ L ∈ F, ∀ q ∈ L, q.2 < q.1 ∧ q.1 < n) → ∃ N : NatNet, F.map layOf = natN N ∧ Valid n N ∧ N.length = F.length ∧ Alike N F
  | [], _, _, _ => ⟨[], rfl, ⟨(fun L h => by cases h), (fun L h => by cases h), (fun L h => by cases h)⟩, rfl, .nil⟩
  | L :: F, ne, nd, rg => by
    obtain ⟨N, e1, V, e2, e3⟩ := tell_net (F := F) (fun K hK => ne K (List.mem_cons_of_mem _ hK)) (fun K hK => nd K (List.mem_cons_of_mem _ hK)) (fun K hK => rg K (List.mem_cons_of_mem _ hK))
    obtain ⟨M, m1, m2, m3⟩ := sort_nat L
    obtain ⟨v1, v2, v3⟩ := lay_valid m2 m3 (nd L List.mem_cons_self) (rg L List.mem_cons_self) (ne L List.mem_cons_self)
    refine ⟨M :: N, ?_, ⟨fun K hK => (List.mem_cons.mp hK).elim (fun e => by rw [e]; exact v1) (V.ne K), fun K hK => (List.mem_cons.mp hK).elim (fun e => by rw [e]; exact v2) (V.up K), fun K hK => (List.mem_cons.mp hK).elim (fun e => by rw [e]; exact v3) (V.rg K)⟩, by simp [e2], .cons m2 e3⟩
    show layOf L :: F.map layOf = _
    rw [m1, e1]
    rfl
/-- the law's nets: valid, of few layers, and they tell beginnings -/
theorem telling_net (cell : Int) {n : Nat} (h1 : 1 ≤ n) (hn : n ≤ 64) : ∃ N : NatNet, f__law_telling [.int cell, .int (n : Nat)] = .ok (netD (natN N)) ∧ Valid n N ∧ N.length ≤ n + 4 ∧ ∀ y, y < n → Tell.netS Tell.v0 (N.map swN) y = some (0, y) := by
  obtain ⟨s, e, I, hl, hv⟩ := telling_ok cell h1 hn
  obtain ⟨N, e1, V, e2, e3⟩ := tell_net (n := n) I.ne I.nd I.rg
  refine ⟨N, ?_, V, by omega, fun y hy => ?_⟩
  · rw [e]
    unfold tellN
    rw [e1]
  · rw [net_all e3 I.nd]
    exact hv y hy
end LK
namespace LK
open L2 G PySem PySem.Spec PyProof.Rows
theorem whole_i (i : Int) : f_is_whole [.int i] = .ok (.bl true) := rfl
theorem among_i (i a b : Int) : f_is_among [.int i, .int a, .int b] = .ok (.bl (decide (a ≤ i) && decide (i ≤ b))) := by
  rw [F_is_among]
  unfold c_is_among
  simp -implicitDefEqProofs only [↓G.e_seq, ↓G.e_skip, ↓G.e_asg, ↓G.e_drop, ↓G.e_ret, ↓G.e_raise, ↓G.e_raiseN, ↓G.e_if, ↓G.e_val, ↓G.e_not, ↓G.e_or, ↓G.e_and, ↓G.e_xand, ↓G.e_xor, ↓G.e_xnot, ↓G.e_var, ↓G.e_c, ↓G.e_bin, ↓G.e_un, ↓G.e_chain, ↓G.e_nil, ↓G.e_cons, ↓G.e_tup, ↓G.e_lst, ↓G.e_call, ↓G.e_callM, ↓G.e_callP, ↓G.e_callO, ↓G.e_for, ↓G.e_itSeq, ↓G.e_itTup, ↓G.e_itR1, ↓G.e_itR2, G.kk_ok, G.kk_ex, G.kF_nx, G.kF_rt, G.kF_ex, G.kI_t, G.kI_f, G.kT_nm, G.kT_tp2, G.kT_ex, G.kB_bl, G.kV_some, G.kO_some, G.kFor_ok, G.nX_n, G.nX_i, G.vB_bl, G.vT_t, G.kP_rt, G.kP_nx, G.kP_ex, G.kQ_some, G.kM_rt, G.kM_nx, G.kM_ex, G.kPO_ex, G.res_bl, G.res_int, G.res_str, G.res_non, G.thr_e, G.ret_e, G.up_ok, G.up_ex, G.upO_ok, G.upO_ex, G.mkL_t, G.mkL_n, G.o_sub, G.o_lt, G.o_le, G.o_gt, G.o_ge, G.o_add, G.o_neg, G.o_isN, G.o_isNI, G.o_isNT, G.o_isNL, G.o_isNR, G.o_isNB, G.o_isNS, G.o_is, G.o_ixT, G.o_ixL, G.o_ixS, G.at_0, G.at_1, G.o_lenL, G.o_lenT, G.o_lenC, G.o_lenS, G.o_max2, G.o_min2, G.o_intB, G.o_intI, G.o_listL, G.o_listT, G.o_listC, G.o_tupL, G.o_eqIt, G.o_eqIf, G.seq_lst, G.seq_scr, G.seq_ref, G.noRL_nil, G.noRL_cons, G.noR_non, G.noR_bl, G.noR_int, G.noR_str, G.noR_dic, G.noR_scr, G.noR_tup, G.noR_lst, G.isd_int, G.isd_intb, G.isd_bool, G.isd_boolb, G.isd_tup, G.isd_lst, G.isd_ref, G.live_lst, G.tgS_nm, G.tgS_tp2, List.getElem?_cons_zero, List.getElem?_cons_succ, List.set_cons_zero, List.set_cons_succ, List.length_cons, List.length_nil, List.nil_append, List.cons_append, Bool.and_true, Bool.true_and, Bool.and_self, Bool.not_true, Bool.not_false, decide_true, decide_false, Nat.reduceAdd, Int.reduceAdd, Int.reduceSub, Int.reduceMul, Int.reduceNeg, Int.cast_ofNat_Int, Int.natCast_zero, Int.natCast_one, eq_self, Int.reduceEq, Int.reduceLT, Int.reduceLE, whole_i]
  by_cases h : a ≤ i
  · simp only [h, decide_true, kI_t]
    simp -implicitDefEqProofs only [↓G.e_seq, ↓G.e_skip, ↓G.e_asg, ↓G.e_drop, ↓G.e_ret, ↓G.e_raise, ↓G.e_raiseN, ↓G.e_if, ↓G.e_val, ↓G.e_not, ↓G.e_or, ↓G.e_and, ↓G.e_xand, ↓G.e_xor, ↓G.e_xnot, ↓G.e_var, ↓G.e_c, ↓G.e_bin, ↓G.e_un, ↓G.e_chain, ↓G.e_nil, ↓G.e_cons, ↓G.e_tup, ↓G.e_lst, ↓G.e_call, ↓G.e_callM, ↓G.e_callP, ↓G.e_callO, ↓G.e_for, ↓G.e_itSeq, ↓G.e_itTup, ↓G.e_itR1, ↓G.e_itR2, G.kk_ok, G.kk_ex, G.kF_nx, G.kF_rt, G.kF_ex, G.kI_t, G.kI_f, G.kT_nm, G.kT_tp2, G.kT_ex, G.kB_bl, G.kV_some, G.kO_some, G.kFor_ok, G.nX_n, G.nX_i, G.vB_bl, G.vT_t, G.kP_rt, G.kP_nx, G.kP_ex, G.kQ_some, G.kM_rt, G.kM_nx, G.kM_ex, G.kPO_ex, G.res_bl, G.res_int, G.res_str, G.res_non, G.thr_e, G.ret_e, G.up_ok, G.up_ex, G.upO_ok, G.upO_ex, G.mkL_t, G.mkL_n, G.o_sub, G.o_lt, G.o_le, G.o_gt, G.o_ge, G.o_add, G.o_neg, G.o_isN, G.o_isNI, G.o_isNT, G.o_isNL, G.o_isNR, G.o_isNB, G.o_isNS, G.o_is, G.o_ixT, G.o_ixL, G.o_ixS, G.at_0, G.at_1, G.o_lenL, G.o_lenT, G.o_lenC, G.o_lenS, G.o_max2, G.o_min2, G.o_intB, G.o_intI, G.o_listL, G.o_listT, G.o_listC, G.o_tupL, G.o_eqIt, G.o_eqIf, G.seq_lst, G.seq_scr, G.seq_ref, G.noRL_nil, G.noRL_cons, G.noR_non, G.noR_bl, G.noR_int, G.noR_str, G.noR_dic, G.noR_scr, G.noR_tup, G.noR_lst, G.isd_int, G.isd_intb, G.isd_bool, G.isd_boolb, G.isd_tup, G.isd_lst, G.isd_ref, G.live_lst, G.tgS_nm, G.tgS_tp2, List.getElem?_cons_zero, List.getElem?_cons_succ, List.set_cons_zero, List.set_cons_succ, List.length_cons, List.length_nil, List.nil_append, List.cons_append, Bool.and_true, Bool.true_and, Bool.and_self, Bool.not_true, Bool.not_false, decide_true, decide_false, Nat.reduceAdd, Int.reduceAdd, Int.reduceSub, Int.reduceMul, Int.reduceNeg, Int.cast_ofNat_Int, Int.natCast_zero, Int.natCast_one, eq_self, Int.reduceEq, Int.reduceLT, Int.reduceLE]
  · simp only [h, decide_false, kI_f]
    simp -implicitDefEqProofs only [↓G.e_seq, ↓G.e_skip, ↓G.e_asg, ↓G.e_drop, ↓G.e_ret, ↓G.e_raise, ↓G.e_raiseN, ↓G.e_if, ↓G.e_val, ↓G.e_not, ↓G.e_or, ↓G.e_and, ↓G.e_xand, ↓G.e_xor, ↓G.e_xnot, ↓G.e_var, ↓G.e_c, ↓G.e_bin, ↓G.e_un, ↓G.e_chain, ↓G.e_nil, ↓G.e_cons, ↓G.e_tup, ↓G.e_lst, ↓G.e_call, ↓G.e_callM, ↓G.e_callP, ↓G.e_callO, ↓G.e_for, ↓G.e_itSeq, ↓G.e_itTup, ↓G.e_itR1, ↓G.e_itR2, G.kk_ok, G.kk_ex, G.kF_nx, G.kF_rt, G.kF_ex, G.kI_t, G.kI_f, G.kT_nm, G.kT_tp2, G.kT_ex, G.kB_bl, G.kV_some, G.kO_some, G.kFor_ok, G.nX_n, G.nX_i, G.vB_bl, G.vT_t, G.kP_rt, G.kP_nx, G.kP_ex, G.kQ_some, G.kM_rt, G.kM_nx, G.kM_ex, G.kPO_ex, G.res_bl, G.res_int, G.res_str, G.res_non, G.thr_e, G.ret_e, G.up_ok, G.up_ex, G.upO_ok, G.upO_ex, G.mkL_t, G.mkL_n, G.o_sub, G.o_lt, G.o_le, G.o_gt, G.o_ge, G.o_add, G.o_neg, G.o_isN, G.o_isNI, G.o_isNT, G.o_isNL, G.o_isNR, G.o_isNB, G.o_isNS, G.o_is, G.o_ixT, G.o_ixL, G.o_ixS, G.at_0, G.at_1, G.o_lenL, G.o_lenT, G.o_lenC, G.o_lenS, G.o_max2, G.o_min2, G.o_intB, G.o_intI, G.o_listL, G.o_listT, G.o_listC, G.o_tupL, G.o_eqIt, G.o_eqIf, G.seq_lst, G.seq_scr, G.seq_ref, G.noRL_nil, G.noRL_cons, G.noR_non, G.noR_bl, G.noR_int, G.noR_str, G.noR_dic, G.noR_scr, G.noR_tup, G.noR_lst, G.isd_int, G.isd_intb, G.isd_bool, G.isd_boolb, G.isd_tup, G.isd_lst, G.isd_ref, G.live_lst, G.tgS_nm, G.tgS_tp2, List.getElem?_cons_zero, List.getElem?_cons_succ, List.set_cons_zero, List.set_cons_succ, List.length_cons, List.length_nil, List.nil_append, List.cons_append, Bool.and_true, Bool.true_and, Bool.and_self, Bool.not_true, Bool.not_false, decide_true, decide_false, Nat.reduceAdd, Int.reduceAdd, Int.reduceSub, Int.reduceMul, Int.reduceNeg, Int.cast_ofNat_Int, Int.natCast_zero, Int.natCast_one, eq_self, Int.reduceEq, Int.reduceLT, Int.reduceLE, Bool.false_and]
theorem among_t {i a b : Int} (h1 : a ≤ i) (h2 : i ≤ b) : f_is_among [.int i, .int a, .int b] = .ok (.bl true) := by
  rw [among_i]
  simp [h1, h2]
theorem among_f {i a b : Int} (h : i < a ∨ b < i) : f_is_among [.int i, .int a, .int b] = .ok (.bl false) := by
  rw [among_i]
  congr 2
  simp
  omega
/-- what is no whole number -/
theorem among_no {d : D} {a b : Int} (hn : noR d = true) (h : ∀ i, d ≠ .int i) : f_is_among [d, .int a, .int b] = .ok (.bl false) := by
  have w : f_is_whole [d] = .ok (.bl false) := by
    cases d with
    | int i => exact absurd rfl (h i)
    | _ => rfl
  rw [F_is_among]
  unfold c_is_among
  simp -implicitDefEqProofs only [↓G.e_seq, ↓G.e_skip, ↓G.e_asg, ↓G.e_drop, ↓G.e_ret, ↓G.e_raise, ↓G.e_raiseN, ↓G.e_if, ↓G.e_val, ↓G.e_not, ↓G.e_or, ↓G.e_and, ↓G.e_xand, ↓G.e_xor, ↓G.e_xnot, ↓G.e_var, ↓G.e_c, ↓G.e_bin, ↓G.e_un, ↓G.e_chain, ↓G.e_nil, ↓G.e_cons, ↓G.e_tup, ↓G.e_lst, ↓G.e_call, ↓G.e_callM, ↓G.e_callP, ↓G.e_callO, ↓G.e_for, ↓G.e_itSeq, ↓G.e_itTup, ↓G.e_itR1, ↓G.e_itR2, G.kk_ok, G.kk_ex, G.kF_nx, G.kF_rt, G.kF_ex, G.kI_t, G.kI_f, G.kT_nm, G.kT_tp2, G.kT_ex, G.kB_bl, G.kV_some, G.kO_some, G.kFor_ok, G.nX_n, G.nX_i, G.vB_bl, G.vT_t, G.kP_rt, G.kP_nx, G.kP_ex, G.kQ_some, G.kM_rt, G.kM_nx, G.kM_ex, G.kPO_ex, G.res_bl, G.res_int, G.res_str, G.res_non, G.thr_e, G.ret_e, G.up_ok, G.up_ex, G.upO_ok, G.upO_ex, G.mkL_t, G.mkL_n, G.o_sub, G.o_lt, G.o_le, G.o_gt, G.o_ge, G.o_add, G.o_neg, G.o_isN, G.o_isNI, G.o_isNT, G.o_isNL, G.o_isNR, G.o_isNB, G.o_isNS, G.o_is, G.o_ixT, G.o_ixL, G.o_ixS, G.at_0, G.at_1, G.o_lenL, G.o_lenT, G.o_lenC, G.o_lenS, G.o_max2, G.o_min2, G.o_intB, G.o_intI, G.o_listL, G.o_listT, G.o_listC, G.o_tupL, G.o_eqIt, G.o_eqIf, G.seq_lst, G.seq_scr, G.seq_ref, G.noRL_nil, G.noRL_cons, G.noR_non, G.noR_bl, G.noR_int, G.noR_str, G.noR_dic, G.noR_scr, G.noR_tup, G.noR_lst, G.isd_int, G.isd_intb, G.isd_bool, G.isd_boolb, G.isd_tup, G.isd_lst, G.isd_ref, G.live_lst, G.tgS_nm, G.tgS_tp2, List.getElem?_cons_zero, List.getElem?_cons_succ, List.set_cons_zero, List.set_cons_succ, List.length_cons, List.length_nil, List.nil_append, List.cons_append, Bool.and_true, Bool.true_and, Bool.and_self, Bool.not_true, Bool.not_false, decide_true, decide_false, Nat.reduceAdd, Int.reduceAdd, Int.reduceSub, Int.reduceMul, Int.reduceNeg, Int.cast_ofNat_Int, Int.natCast_zero, Int.natCast_one, eq_self, Int.reduceEq, Int.reduceLT, Int.reduceLE, w, hn]
/-- a joint as the document has it -/
theorem joint_t {a b n : Nat} (h1 : a < b) (h2 : b < n) : f_is_joint [G.pairD ((a : Int), (b : Int)), .int (n : Int)] = .ok (.bl true) := by
  rw [F_is_joint]
  unfold c_is_joint G.pairD
  simp -implicitDefEqProofs only [↓G.e_seq, ↓G.e_skip, ↓G.e_asg, ↓G.e_drop, ↓G.e_ret, ↓G.e_raise, ↓G.e_raiseN, ↓G.e_if, ↓G.e_val, ↓G.e_not, ↓G.e_or, ↓G.e_and, ↓G.e_xand, ↓G.e_xor, ↓G.e_xnot, ↓G.e_var, ↓G.e_c, ↓G.e_bin, ↓G.e_un, ↓G.e_chain, ↓G.e_nil, ↓G.e_cons, ↓G.e_tup, ↓G.e_lst, ↓G.e_call, ↓G.e_callM, ↓G.e_callP, ↓G.e_callO, ↓G.e_for, ↓G.e_itSeq, ↓G.e_itTup, ↓G.e_itR1, ↓G.e_itR2, G.kk_ok, G.kk_ex, G.kF_nx, G.kF_rt, G.kF_ex, G.kI_t, G.kI_f, G.kT_nm, G.kT_tp2, G.kT_ex, G.kB_bl, G.kV_some, G.kO_some, G.kFor_ok, G.nX_n, G.nX_i, G.vB_bl, G.vT_t, G.kP_rt, G.kP_nx, G.kP_ex, G.kQ_some, G.kM_rt, G.kM_nx, G.kM_ex, G.kPO_ex, G.res_bl, G.res_int, G.res_str, G.res_non, G.thr_e, G.ret_e, G.up_ok, G.up_ex, G.upO_ok, G.upO_ex, G.mkL_t, G.mkL_n, G.o_sub, G.o_lt, G.o_le, G.o_gt, G.o_ge, G.o_add, G.o_neg, G.o_isN, G.o_isNI, G.o_isNT, G.o_isNL, G.o_isNR, G.o_isNB, G.o_isNS, G.o_is, G.o_ixT, G.o_ixL, G.o_ixS, G.at_0, G.at_1, G.o_lenL, G.o_lenT, G.o_lenC, G.o_lenS, G.o_max2, G.o_min2, G.o_intB, G.o_intI, G.o_listL, G.o_listT, G.o_listC, G.o_tupL, G.o_eqIt, G.o_eqIf, G.seq_lst, G.seq_scr, G.seq_ref, G.noRL_nil, G.noRL_cons, G.noR_non, G.noR_bl, G.noR_int, G.noR_str, G.noR_dic, G.noR_scr, G.noR_tup, G.noR_lst, G.isd_int, G.isd_intb, G.isd_bool, G.isd_boolb, G.isd_tup, G.isd_lst, G.isd_ref, G.live_lst, G.tgS_nm, G.tgS_tp2, List.getElem?_cons_zero, List.getElem?_cons_succ, List.set_cons_zero, List.set_cons_succ, List.length_cons, List.length_nil, List.nil_append, List.cons_append, Bool.and_true, Bool.true_and, Bool.and_self, Bool.not_true, Bool.not_false, decide_true, decide_false, Nat.reduceAdd, Int.reduceAdd, Int.reduceSub, Int.reduceMul, Int.reduceNeg, Int.cast_ofNat_Int, Int.natCast_zero, Int.natCast_one, eq_self, Int.reduceEq, Int.reduceLT, Int.reduceLE, among_t (i := a) (a := 0) (b := n - 1) (by omega) (by omega), among_t (i := b) (a := 0) (b := n - 1) (by omega) (by omega), show ((a : Int) < b) ↔ True by simp; omega]
theorem lay_step {xs : List D} {a b n : Nat} {last : Int} (h1 : a < b) (h2 : b < n) (h3 : last < b) : b_is_layer_0 [some (.lst xs), some (.int n), some (.int last), some (G.pairD ((a : Int), (b : Int)))] [] = .ok (.nx [some (.lst xs), some (.int n), some (.int b), some (G.pairD ((a : Int), (b : Int)))]) [] := by
  have j := joint_t h1 h2
  unfold G.pairD at *
  unfold b_is_layer_0
  simp -implicitDefEqProofs only [↓G.e_seq, ↓G.e_skip, ↓G.e_asg, ↓G.e_drop, ↓G.e_ret, ↓G.e_raise, ↓G.e_raiseN, ↓G.e_if, ↓G.e_val, ↓G.e_not, ↓G.e_or, ↓G.e_and, ↓G.e_xand, ↓G.e_xor, ↓G.e_xnot, ↓G.e_var, ↓G.e_c, ↓G.e_bin, ↓G.e_un, ↓G.e_chain, ↓G.e_nil, ↓G.e_cons, ↓G.e_tup, ↓G.e_lst, ↓G.e_call, ↓G.e_callM, ↓G.e_callP, ↓G.e_callO, ↓G.e_for, ↓G.e_itSeq, ↓G.e_itTup, ↓G.e_itR1, ↓G.e_itR2, G.kk_ok, G.kk_ex, G.kF_nx, G.kF_rt, G.kF_ex, G.kI_t, G.kI_f, G.kT_nm, G.kT_tp2, G.kT_ex, G.kB_bl, G.kV_some, G.kO_some, G.kFor_ok, G.nX_n, G.nX_i, G.vB_bl, G.vT_t, G.kP_rt, G.kP_nx, G.kP_ex, G.kQ_some, G.kM_rt, G.kM_nx, G.kM_ex, G.kPO_ex, G.res_bl, G.res_int, G.res_str, G.res_non, G.thr_e, G.ret_e, G.up_ok, G.up_ex, G.upO_ok, G.upO_ex, G.mkL_t, G.mkL_n, G.o_sub, G.o_lt, G.o_le, G.o_gt, G.o_ge, G.o_add, G.o_neg, G.o_isN, G.o_isNI, G.o_isNT, G.o_isNL, G.o_isNR, G.o_isNB, G.o_isNS, G.o_is, G.o_ixT, G.o_ixL, G.o_ixS, G.at_0, G.at_1, G.o_lenL, G.o_lenT, G.o_lenC, G.o_lenS, G.o_max2, G.o_min2, G.o_intB, G.o_intI, G.o_listL, G.o_listT, G.o_listC, G.o_tupL, G.o_eqIt, G.o_eqIf, G.seq_lst, G.seq_scr, G.seq_ref, G.noRL_nil, G.noRL_cons, G.noR_non, G.noR_bl, G.noR_int, G.noR_str, G.noR_dic, G.noR_scr, G.noR_tup, G.noR_lst, G.isd_int, G.isd_intb, G.isd_bool, G.isd_boolb, G.isd_tup, G.isd_lst, G.isd_ref, G.live_lst, G.tgS_nm, G.tgS_tp2, List.getElem?_cons_zero, List.getElem?_cons_succ, List.set_cons_zero, List.set_cons_succ, List.length_cons, List.length_nil, List.nil_append, List.cons_append, Bool.and_true, Bool.true_and, Bool.and_self, Bool.not_true, Bool.not_false, decide_true, decide_false, Nat.reduceAdd, Int.reduceAdd, Int.reduceSub, Int.reduceMul, Int.reduceNeg, Int.cast_ofNat_Int, Int.natCast_zero, Int.natCast_one, eq_self, Int.reduceEq, Int.reduceLT, Int.reduceLE, j, show ((b : Int) ≤ last) ↔ False by simp; omega]
def zz (p : Nat × Nat) : Int × Int := ((p.1 : Int), (p.2 : Int))
def layN (L : List (Nat × Nat)) : D := .lst (layD (L.map zz))
theorem noR_layN (L : List (Nat × Nat)) : noR (layN L) = true := noR_lay _
theorem netD_N (N : NatNet) : netD (natN N) = .lst (N.map layN) := by
  unfold netD natN
  rw [List.map_map]
  rfl
theorem layer_t {n : Nat} {L : List (Nat × Nat)} (ne : L ≠ []) (up : L.Pairwise fun a b => a.2 < b.2) (rg : ∀ p ∈ L, p.1 < p.2 ∧ p.2 < n) : f_is_layer [layN L, .int (n : Int)] = .ok (.bl true) := by
  rw [F_is_layer]
  unfold c_is_layer layN
  have hl : (layD (L.map zz)).length = L.length := by simp [layD]
  have h0 : ((L.length : Nat) : Int) = 0 ↔ False := by
    have := List.length_pos_iff.mpr ne
    simp
    exact ne
  simp -implicitDefEqProofs only [↓G.e_seq, ↓G.e_skip, ↓G.e_asg, ↓G.e_drop, ↓G.e_ret, ↓G.e_raise, ↓G.e_raiseN, ↓G.e_if, ↓G.e_val, ↓G.e_not, ↓G.e_or, ↓G.e_and, ↓G.e_xand, ↓G.e_xor, ↓G.e_xnot, ↓G.e_var, ↓G.e_c, ↓G.e_bin, ↓G.e_un, ↓G.e_chain, ↓G.e_nil, ↓G.e_cons, ↓G.e_tup, ↓G.e_lst, ↓G.e_call, ↓G.e_callM, ↓G.e_callP, ↓G.e_callO, ↓G.e_for, ↓G.e_itSeq, ↓G.e_itTup, ↓G.e_itR1, ↓G.e_itR2, G.kk_ok, G.kk_ex, G.kF_nx, G.kF_rt, G.kF_ex, G.kI_t, G.kI_f, G.kT_nm, G.kT_tp2, G.kT_ex, G.kB_bl, G.kV_some, G.kO_some, G.kFor_ok, G.nX_n, G.nX_i, G.vB_bl, G.vT_t, G.kP_rt, G.kP_nx, G.kP_ex, G.kQ_some, G.kM_rt, G.kM_nx, G.kM_ex, G.kPO_ex, G.res_bl, G.res_int, G.res_str, G.res_non, G.thr_e, G.ret_e, G.up_ok, G.up_ex, G.upO_ok, G.upO_ex, G.mkL_t, G.mkL_n, G.o_sub, G.o_lt, G.o_le, G.o_gt, G.o_ge, G.o_add, G.o_neg, G.o_isN, G.o_isNI, G.o_isNT, G.o_isNL, G.o_isNR, G.o_isNB, G.o_isNS, G.o_is, G.o_ixT, G.o_ixL, G.o_ixS, G.at_0, G.at_1, G.o_lenL, G.o_lenT, G.o_lenC, G.o_lenS, G.o_max2, G.o_min2, G.o_intB, G.o_intI, G.o_listL, G.o_listT, G.o_listC, G.o_tupL, G.o_eqIt, G.o_eqIf, G.seq_lst, G.seq_scr, G.seq_ref, G.noRL_nil, G.noRL_cons, G.noR_non, G.noR_bl, G.noR_int, G.noR_str, G.noR_dic, G.noR_scr, G.noR_tup, G.noR_lst, G.isd_int, G.isd_intb, G.isd_bool, G.isd_boolb, G.isd_tup, G.isd_lst, G.isd_ref, G.live_lst, G.tgS_nm, G.tgS_tp2, List.getElem?_cons_zero, List.getElem?_cons_succ, List.set_cons_zero, List.set_cons_succ, List.length_cons, List.length_nil, List.nil_append, List.cons_append, Bool.and_true, Bool.true_and, Bool.and_self, Bool.not_true, Bool.not_false, decide_true, decide_false, Nat.reduceAdd, Int.reduceAdd, Int.reduceSub, Int.reduceMul, Int.reduceNeg, Int.cast_ofNat_Int, Int.natCast_zero, Int.natCast_one, eq_self, Int.reduceEq, Int.reduceLT, Int.reduceLE, hl, h0, l_is_layer_0]
  obtain ⟨e', cs', h4, rfl, last, j, rfl, _⟩ := forGo_pre (live := liveOf (layD (L.map zz)) (.lst (layD (L.map zz)))) (t := .nm 3) (b := b_is_layer_0) (ys := layD (L.map zz)) (r := []) (env := [some (.lst (layD (L.map zz))), some (.int n), some (.int 0), none]) (cs := [])
    (fun i env cs => cs = [] ∧ ∃ last j, env = [some (.lst (layD (L.map zz))), some (.int n), some (.int last), j] ∧ ∀ p ∈ L.drop i, last < ((p.2 : Nat) : Int)) (fun _ _ _ _ => rfl) (by
      rintro i x env cs hx ⟨rfl, last, j, rfl, hd⟩
      unfold layD at hx
      rw [List.map_map, List.getElem?_map, Option.map_eq_some_iff] at hx
      obtain ⟨p, hp, rfl⟩ := hx
      have hi := (List.getElem?_eq_some_iff.mp hp).1
      have hm := List.mem_of_getElem? hp
      have hd1 : L.drop i = p :: L.drop (i + 1) := by
        rw [← List.getElem_cons_drop hi, (List.getElem?_eq_some_iff.mp hp).2]
      refine ⟨_, rfl, _, _, lay_step (rg p hm).1 (rg p hm).2 (hd p (by rw [hd1]; exact List.mem_cons_self)), rfl, _, _, rfl, fun q hq => ?_⟩
      have up2 : (L.drop i).Pairwise fun a b => a.2 < b.2 := up.sublist (List.drop_sublist ..)
      rw [hd1] at up2
      exact Int.ofNat_lt.mpr ((List.pairwise_cons.mp up2).1 q hq)) ⟨rfl, 0, none, rfl, fun p hp => by
        have := rg p (List.mem_of_mem_drop hp)
        omega⟩
  rw [List.append_nil] at h4
  rw [h4, forGo_end rfl]
  simp -implicitDefEqProofs only [↓G.e_seq, ↓G.e_skip, ↓G.e_asg, ↓G.e_drop, ↓G.e_ret, ↓G.e_raise, ↓G.e_raiseN, ↓G.e_if, ↓G.e_val, ↓G.e_not, ↓G.e_or, ↓G.e_and, ↓G.e_xand, ↓G.e_xor, ↓G.e_xnot, ↓G.e_var, ↓G.e_c, ↓G.e_bin, ↓G.e_un, ↓G.e_chain, ↓G.e_nil, ↓G.e_cons, ↓G.e_tup, ↓G.e_lst, ↓G.e_call, ↓G.e_callM, ↓G.e_callP, ↓G.e_callO, ↓G.e_for, ↓G.e_itSeq, ↓G.e_itTup, ↓G.e_itR1, ↓G.e_itR2, G.kk_ok, G.kk_ex, G.kF_nx, G.kF_rt, G.kF_ex, G.kI_t, G.kI_f, G.kT_nm, G.kT_tp2, G.kT_ex, G.kB_bl, G.kV_some, G.kO_some, G.kFor_ok, G.nX_n, G.nX_i, G.vB_bl, G.vT_t, G.kP_rt, G.kP_nx, G.kP_ex, G.kQ_some, G.kM_rt, G.kM_nx, G.kM_ex, G.kPO_ex, G.res_bl, G.res_int, G.res_str, G.res_non, G.thr_e, G.ret_e, G.up_ok, G.up_ex, G.upO_ok, G.upO_ex, G.mkL_t, G.mkL_n, G.o_sub, G.o_lt, G.o_le, G.o_gt, G.o_ge, G.o_add, G.o_neg, G.o_isN, G.o_isNI, G.o_isNT, G.o_isNL, G.o_isNR, G.o_isNB, G.o_isNS, G.o_is, G.o_ixT, G.o_ixL, G.o_ixS, G.at_0, G.at_1, G.o_lenL, G.o_lenT, G.o_lenC, G.o_lenS, G.o_max2, G.o_min2, G.o_intB, G.o_intI, G.o_listL, G.o_listT, G.o_listC, G.o_tupL, G.o_eqIt, G.o_eqIf, G.seq_lst, G.seq_scr, G.seq_ref, G.noRL_nil, G.noRL_cons, G.noR_non, G.noR_bl, G.noR_int, G.noR_str, G.noR_dic, G.noR_scr, G.noR_tup, G.noR_lst, G.isd_int, G.isd_intb, G.isd_bool, G.isd_boolb, G.isd_tup, G.isd_lst, G.isd_ref, G.live_lst, G.tgS_nm, G.tgS_tp2, List.getElem?_cons_zero, List.getElem?_cons_succ, List.set_cons_zero, List.set_cons_succ, List.length_cons, List.length_nil, List.nil_append, List.cons_append, Bool.and_true, Bool.true_and, Bool.and_self, Bool.not_true, Bool.not_false, decide_true, decide_false, Nat.reduceAdd, Int.reduceAdd, Int.reduceSub, Int.reduceMul, Int.reduceNeg, Int.cast_ofNat_Int, Int.natCast_zero, Int.natCast_one, eq_self, Int.reduceEq, Int.reduceLT, Int.reduceLE]
theorem need_pre {n : Nat} {ys zs : List D} (hl : (ys ++ zs).length ≤ 80) (hr : noRL (ys ++ zs) = true) (hy : ∀ x ∈ ys, f_is_layer [x, .int (n : Int)] = .ok (.bl true)) :
    ∃ j, f_need_layers [.int (n : Int), .lst (ys ++ zs)] = kP (forGo (fun _ => true) (.nm 2) b_need_layers_0 ((List.range' ys.length zs.length).map fun i => D.int (i : Nat)) [some (.int n), some (.lst (ys ++ zs)), j] []) := by
  rw [F_need_layers]
  unfold c_need_layers
  simp -implicitDefEqProofs only [↓G.e_seq, ↓G.e_skip, ↓G.e_asg, ↓G.e_drop, ↓G.e_ret, ↓G.e_raise, ↓G.e_raiseN, ↓G.e_if, ↓G.e_val, ↓G.e_not, ↓G.e_or, ↓G.e_and, ↓G.e_xand, ↓G.e_xor, ↓G.e_xnot, ↓G.e_var, ↓G.e_c, ↓G.e_bin, ↓G.e_un, ↓G.e_chain, ↓G.e_nil, ↓G.e_cons, ↓G.e_tup, ↓G.e_lst, ↓G.e_call, ↓G.e_callM, ↓G.e_callP, ↓G.e_callO, ↓G.e_for, ↓G.e_itSeq, ↓G.e_itTup, ↓G.e_itR1, ↓G.e_itR2, G.kk_ok, G.kk_ex, G.kF_nx, G.kF_rt, G.kF_ex, G.kI_t, G.kI_f, G.kT_nm, G.kT_tp2, G.kT_ex, G.kB_bl, G.kV_some, G.kO_some, G.kFor_ok, G.nX_n, G.nX_i, G.vB_bl, G.vT_t, G.kP_rt, G.kP_nx, G.kP_ex, G.kQ_some, G.kM_rt, G.kM_nx, G.kM_ex, G.kPO_ex, G.res_bl, G.res_int, G.res_str, G.res_non, G.thr_e, G.ret_e, G.up_ok, G.up_ex, G.upO_ok, G.upO_ex, G.mkL_t, G.mkL_n, G.o_sub, G.o_lt, G.o_le, G.o_gt, G.o_ge, G.o_add, G.o_neg, G.o_isN, G.o_isNI, G.o_isNT, G.o_isNL, G.o_isNR, G.o_isNB, G.o_isNS, G.o_is, G.o_ixT, G.o_ixL, G.o_ixS, G.at_0, G.at_1, G.o_lenL, G.o_lenT, G.o_lenC, G.o_lenS, G.o_max2, G.o_min2, G.o_intB, G.o_intI, G.o_listL, G.o_listT, G.o_listC, G.o_tupL, G.o_eqIt, G.o_eqIf, G.seq_lst, G.seq_scr, G.seq_ref, G.noRL_nil, G.noRL_cons, G.noR_non, G.noR_bl, G.noR_int, G.noR_str, G.noR_dic, G.noR_scr, G.noR_tup, G.noR_lst, G.isd_int, G.isd_intb, G.isd_bool, G.isd_boolb, G.isd_tup, G.isd_lst, G.isd_ref, G.live_lst, G.tgS_nm, G.tgS_tp2, List.getElem?_cons_zero, List.getElem?_cons_succ, List.set_cons_zero, List.set_cons_succ, List.length_cons, List.length_nil, List.nil_append, List.cons_append, Bool.and_true, Bool.true_and, Bool.and_self, Bool.not_true, Bool.not_false, decide_true, decide_false, Nat.reduceAdd, Int.reduceAdd, Int.reduceSub, Int.reduceMul, Int.reduceNeg, Int.cast_ofNat_Int, Int.natCast_zero, Int.natCast_one, eq_self, Int.reduceEq, Int.reduceLT, Int.reduceLE, show (80 : Int) < ((ys ++ zs).length : Int) ↔ False by simp only [iff_false]; omega, l_need_layers_0, o_R1 (n := (ys ++ zs).length) (by omega)]
  have e : ((List.range (ys ++ zs).length).map fun i => D.int (i : Nat)) = ((List.range ys.length).map fun i => D.int (i : Nat)) ++ ((List.range' ys.length zs.length).map fun i => D.int (i : Nat)) := by
    have q := List.range'_append_1 (s := 0) (m := ys.length) (n := zs.length)
    rw [Nat.zero_add] at q
    rw [← List.map_append, List.length_append, List.range_eq_range', List.range_eq_range', q]
  rw [e]
  obtain ⟨e', cs', h4, rfl, j, rfl⟩ := forGo_pre (live := fun _ => true) (t := .nm 2) (b := b_need_layers_0) (ys := (List.range ys.length).map fun i => D.int (i : Nat)) (r := ((List.range' ys.length zs.length).map fun i => D.int (i : Nat))) (env := [some (.int n), some (.lst (ys ++ zs)), none]) (cs := [])
    (fun i env cs => cs = [] ∧ ∃ j, env = [some (.int n), some (.lst (ys ++ zs)), j]) (fun _ _ _ _ => rfl) (by
      rintro i x env cs hx ⟨rfl, j, rfl⟩
      rw [List.getElem?_map, Option.map_eq_some_iff] at hx
      obtain ⟨k, hk, rfl⟩ := hx
      have hi := (List.getElem?_eq_some_iff.mp hk).1
      rw [List.getElem?_range (by simpa using hi)] at hk
      cases hk
      have hi2 : i < ys.length := by simpa using hi
      have g : (ys ++ zs)[i]? = some ys[i] := by rw [List.getElem?_append_left hi2, List.getElem?_eq_getElem hi2]
      have nr : noR ys[i] = true := by
        rw [noRL_all, List.all_eq_true] at hr
        exact hr _ (List.mem_append_left _ (List.getElem_mem _))
      refine ⟨_, rfl, _, _, ?_, rfl, some (.int (i : Nat)), rfl⟩
      unfold b_need_layers_0
      simp -implicitDefEqProofs only [↓G.e_seq, ↓G.e_skip, ↓G.e_asg, ↓G.e_drop, ↓G.e_ret, ↓G.e_raise, ↓G.e_raiseN, ↓G.e_if, ↓G.e_val, ↓G.e_not, ↓G.e_or, ↓G.e_and, ↓G.e_xand, ↓G.e_xor, ↓G.e_xnot, ↓G.e_var, ↓G.e_c, ↓G.e_bin, ↓G.e_un, ↓G.e_chain, ↓G.e_nil, ↓G.e_cons, ↓G.e_tup, ↓G.e_lst, ↓G.e_call, ↓G.e_callM, ↓G.e_callP, ↓G.e_callO, ↓G.e_for, ↓G.e_itSeq, ↓G.e_itTup, ↓G.e_itR1, ↓G.e_itR2, G.kk_ok, G.kk_ex, G.kF_nx, G.kF_rt, G.kF_ex, G.kI_t, G.kI_f, G.kT_nm, G.kT_tp2, G.kT_ex, G.kB_bl, G.kV_some, G.kO_some, G.kFor_ok, G.nX_n, G.nX_i, G.vB_bl, G.vT_t, G.kP_rt, G.kP_nx, G.kP_ex, G.kQ_some, G.kM_rt, G.kM_nx, G.kM_ex, G.kPO_ex, G.res_bl, G.res_int, G.res_str, G.res_non, G.thr_e, G.ret_e, G.up_ok, G.up_ex, G.upO_ok, G.upO_ex, G.mkL_t, G.mkL_n, G.o_sub, G.o_lt, G.o_le, G.o_gt, G.o_ge, G.o_add, G.o_neg, G.o_isN, G.o_isNI, G.o_isNT, G.o_isNL, G.o_isNR, G.o_isNB, G.o_isNS, G.o_is, G.o_ixT, G.o_ixL, G.o_ixS, G.at_0, G.at_1, G.o_lenL, G.o_lenT, G.o_lenC, G.o_lenS, G.o_max2, G.o_min2, G.o_intB, G.o_intI, G.o_listL, G.o_listT, G.o_listC, G.o_tupL, G.o_eqIt, G.o_eqIf, G.seq_lst, G.seq_scr, G.seq_ref, G.noRL_nil, G.noRL_cons, G.noR_non, G.noR_bl, G.noR_int, G.noR_str, G.noR_dic, G.noR_scr, G.noR_tup, G.noR_lst, G.isd_int, G.isd_intb, G.isd_bool, G.isd_boolb, G.isd_tup, G.isd_lst, G.isd_ref, G.live_lst, G.tgS_nm, G.tgS_tp2, List.getElem?_cons_zero, List.getElem?_cons_succ, List.set_cons_zero, List.set_cons_succ, List.length_cons, List.length_nil, List.nil_append, List.cons_append, Bool.and_true, Bool.true_and, Bool.and_self, Bool.not_true, Bool.not_false, decide_true, decide_false, Nat.reduceAdd, Int.reduceAdd, Int.reduceSub, Int.reduceMul, Int.reduceNeg, Int.cast_ofNat_Int, Int.natCast_zero, Int.natCast_one, eq_self, Int.reduceEq, Int.reduceLT, Int.reduceLE, at_k (xs := ys ++ zs) (i := (i : Int)) (k := i) rfl g, hy _ (List.getElem_mem hi2), nr]) ⟨rfl, _, rfl⟩
  exact ⟨j, by rw [h4]⟩
theorem layers_t {n : Nat} {xs : List D} (hl : xs.length ≤ 80) (hr : noRL xs = true) (hy : ∀ x ∈ xs, f_is_layer [x, .int (n : Int)] = .ok (.bl true)) : f_need_layers [.int (n : Int), .lst xs] = .ok .non := by
  obtain ⟨j, h⟩ := need_pre (ys := xs) (zs := []) (by simpa using hl) (by simpa using hr) hy
  rw [List.append_nil] at h
  rw [h]
  show kP (forGo _ _ _ [] _ _) = _
  rw [forGo_end rfl]
  rfl
theorem net_t {n : Nat} {N : NatNet} (V : Valid n N) (hl : N.length ≤ 80) : f_need_layers [.int (n : Int), netD (natN N)] = .ok .non := by
  rw [netD_N]
  refine layers_t (by simpa using hl) ?_ fun x hx => ?_
  · rw [noRL_all, List.all_eq_true]
    intro x hx
    obtain ⟨L, _, rfl⟩ := List.mem_map.mp hx
    exact noR_layN L
  · obtain ⟨L, hL, rfl⟩ := List.mem_map.mp hx
    exact layer_t (V.ne L hL) (V.up L hL) (V.rg L hL)
end LK
namespace LK
open L2 G PySem PySem.Spec PyProof.Rows
theorem cell_at (ns : List Int) (k : Int) (hk : 0 ≤ k) : ∃ c : Int, f__law_cell_at [.scr ns, .int k] = .ok (.int c) := by
  obtain ⟨m, rfl⟩ : ∃ m : Nat, k = m := ⟨k.toNat, by omega⟩
  rw [F__law_cell_at]
  unfold c__law_cell_at
  by_cases h : m < ns.length
  · have h1 : ((m : Int) < (ns.length : Nat)) ↔ True := by simp; omega
    refine ⟨ns[m], ?_⟩
    simp -implicitDefEqProofs only [↓G.e_seq, ↓G.e_skip, ↓G.e_asg, ↓G.e_drop, ↓G.e_ret, ↓G.e_raise, ↓G.e_raiseN, ↓G.e_if, ↓G.e_val, ↓G.e_not, ↓G.e_or, ↓G.e_and, ↓G.e_xand, ↓G.e_xor, ↓G.e_xnot, ↓G.e_var, ↓G.e_c, ↓G.e_bin, ↓G.e_un, ↓G.e_chain, ↓G.e_nil, ↓G.e_cons, ↓G.e_tup, ↓G.e_lst, ↓G.e_call, ↓G.e_callM, ↓G.e_callP, ↓G.e_callO, ↓G.e_for, ↓G.e_itSeq, ↓G.e_itTup, ↓G.e_itR1, ↓G.e_itR2, G.kk_ok, G.kk_ex, G.kF_nx, G.kF_rt, G.kF_ex, G.kI_t, G.kI_f, G.kT_nm, G.kT_tp2, G.kT_ex, G.kB_bl, G.kV_some, G.kO_some, G.kFor_ok, G.nX_n, G.nX_i, G.vB_bl, G.vT_t, G.kP_rt, G.kP_nx, G.kP_ex, G.kQ_some, G.kM_rt, G.kM_nx, G.kM_ex, G.kPO_ex, G.res_bl, G.res_int, G.res_str, G.res_non, G.thr_e, G.ret_e, G.up_ok, G.up_ex, G.upO_ok, G.upO_ex, G.mkL_t, G.mkL_n, G.o_sub, G.o_lt, G.o_le, G.o_gt, G.o_ge, G.o_add, G.o_neg, G.o_isN, G.o_isNI, G.o_isNT, G.o_isNL, G.o_isNR, G.o_isNB, G.o_isNS, G.o_is, G.o_ixT, G.o_ixL, G.o_ixS, G.at_0, G.at_1, G.o_lenL, G.o_lenT, G.o_lenC, G.o_lenS, G.o_max2, G.o_min2, G.o_intB, G.o_intI, G.o_listL, G.o_listT, G.o_listC, G.o_tupL, G.o_eqIt, G.o_eqIf, G.seq_lst, G.seq_scr, G.seq_ref, G.noRL_nil, G.noRL_cons, G.noR_non, G.noR_bl, G.noR_int, G.noR_str, G.noR_dic, G.noR_scr, G.noR_tup, G.noR_lst, G.isd_int, G.isd_intb, G.isd_bool, G.isd_boolb, G.isd_tup, G.isd_lst, G.isd_ref, G.live_lst, G.tgS_nm, G.tgS_tp2, List.getElem?_cons_zero, List.getElem?_cons_succ, List.set_cons_zero, List.set_cons_succ, List.length_cons, List.length_nil, List.nil_append, List.cons_append, Bool.and_true, Bool.true_and, Bool.and_self, Bool.not_true, Bool.not_false, decide_true, decide_false, Nat.reduceAdd, Int.reduceAdd, Int.reduceSub, Int.reduceMul, Int.reduceNeg, Int.cast_ofNat_Int, Int.natCast_zero, Int.natCast_one, eq_self, Int.reduceEq, Int.reduceLT, Int.reduceLE, h1, at_k (xs := ns.map D.int) (i := (m : Nat)) (k := m) rfl (show _ = some (D.int ns[m]) by simp [h])]
  · have h1 : ((m : Int) < (ns.length : Nat)) ↔ False := by simp; omega
    exact ⟨0, by simp -implicitDefEqProofs only [↓G.e_seq, ↓G.e_skip, ↓G.e_asg, ↓G.e_drop, ↓G.e_ret, ↓G.e_raise, ↓G.e_raiseN, ↓G.e_if, ↓G.e_val, ↓G.e_not, ↓G.e_or, ↓G.e_and, ↓G.e_xand, ↓G.e_xor, ↓G.e_xnot, ↓G.e_var, ↓G.e_c, ↓G.e_bin, ↓G.e_un, ↓G.e_chain, ↓G.e_nil, ↓G.e_cons, ↓G.e_tup, ↓G.e_lst, ↓G.e_call, ↓G.e_callM, ↓G.e_callP, ↓G.e_callO, ↓G.e_for, ↓G.e_itSeq, ↓G.e_itTup, ↓G.e_itR1, ↓G.e_itR2, G.kk_ok, G.kk_ex, G.kF_nx, G.kF_rt, G.kF_ex, G.kI_t, G.kI_f, G.kT_nm, G.kT_tp2, G.kT_ex, G.kB_bl, G.kV_some, G.kO_some, G.kFor_ok, G.nX_n, G.nX_i, G.vB_bl, G.vT_t, G.kP_rt, G.kP_nx, G.kP_ex, G.kQ_some, G.kM_rt, G.kM_nx, G.kM_ex, G.kPO_ex, G.res_bl, G.res_int, G.res_str, G.res_non, G.thr_e, G.ret_e, G.up_ok, G.up_ex, G.upO_ok, G.upO_ex, G.mkL_t, G.mkL_n, G.o_sub, G.o_lt, G.o_le, G.o_gt, G.o_ge, G.o_add, G.o_neg, G.o_isN, G.o_isNI, G.o_isNT, G.o_isNL, G.o_isNR, G.o_isNB, G.o_isNS, G.o_is, G.o_ixT, G.o_ixL, G.o_ixS, G.at_0, G.at_1, G.o_lenL, G.o_lenT, G.o_lenC, G.o_lenS, G.o_max2, G.o_min2, G.o_intB, G.o_intI, G.o_listL, G.o_listT, G.o_listC, G.o_tupL, G.o_eqIt, G.o_eqIf, G.seq_lst, G.seq_scr, G.seq_ref, G.noRL_nil, G.noRL_cons, G.noR_non, G.noR_bl, G.noR_int, G.noR_str, G.noR_dic, G.noR_scr, G.noR_tup, G.noR_lst, G.isd_int, G.isd_intb, G.isd_bool, G.isd_boolb, G.isd_tup, G.isd_lst, G.isd_ref, G.live_lst, G.tgS_nm, G.tgS_tp2, List.getElem?_cons_zero, List.getElem?_cons_succ, List.set_cons_zero, List.set_cons_succ, List.length_cons, List.length_nil, List.nil_append, List.cons_append, Bool.and_true, Bool.true_and, Bool.and_self, Bool.not_true, Bool.not_false, decide_true, decide_false, Nat.reduceAdd, Int.reduceAdd, Int.reduceSub, Int.reduceMul, Int.reduceNeg, Int.cast_ofNat_Int, Int.natCast_zero, Int.natCast_one, eq_self, Int.reduceEq, Int.reduceLT, Int.reduceLE, h1]⟩
theorem lines_by (c : Int) : ∃ n : Nat, f__law_lines_by [.int c] = .ok (.int (n : Nat)) ∧ 1 ≤ n ∧ n ≤ 32 := by
  rw [F__law_lines_by]
  unfold c__law_lines_by
  have m1 := Int.emod_nonneg c (b := 12) (by decide)
  have m2 := Int.emod_lt_of_pos c (b := 12) (by decide)
  have m3 := Int.emod_nonneg (c / 108) (b := 20) (by decide)
  have m4 := Int.emod_lt_of_pos (c / 108) (b := 20) (by decide)
  by_cases h : c / 12 % 9 = 1
  · refine ⟨(13 + c / 108 % 20).toNat, ?_, by omega, by omega⟩
    simp -implicitDefEqProofs only [↓G.e_seq, ↓G.e_skip, ↓G.e_asg, ↓G.e_drop, ↓G.e_ret, ↓G.e_raise, ↓G.e_raiseN, ↓G.e_if, ↓G.e_val, ↓G.e_not, ↓G.e_or, ↓G.e_and, ↓G.e_xand, ↓G.e_xor, ↓G.e_xnot, ↓G.e_var, ↓G.e_c, ↓G.e_bin, ↓G.e_un, ↓G.e_chain, ↓G.e_nil, ↓G.e_cons, ↓G.e_tup, ↓G.e_lst, ↓G.e_call, ↓G.e_callM, ↓G.e_callP, ↓G.e_callO, ↓G.e_for, ↓G.e_itSeq, ↓G.e_itTup, ↓G.e_itR1, ↓G.e_itR2, G.kk_ok, G.kk_ex, G.kF_nx, G.kF_rt, G.kF_ex, G.kI_t, G.kI_f, G.kT_nm, G.kT_tp2, G.kT_ex, G.kB_bl, G.kV_some, G.kO_some, G.kFor_ok, G.nX_n, G.nX_i, G.vB_bl, G.vT_t, G.kP_rt, G.kP_nx, G.kP_ex, G.kQ_some, G.kM_rt, G.kM_nx, G.kM_ex, G.kPO_ex, G.res_bl, G.res_int, G.res_str, G.res_non, G.thr_e, G.ret_e, G.up_ok, G.up_ex, G.upO_ok, G.upO_ex, G.mkL_t, G.mkL_n, G.o_sub, G.o_lt, G.o_le, G.o_gt, G.o_ge, G.o_add, G.o_neg, G.o_isN, G.o_isNI, G.o_isNT, G.o_isNL, G.o_isNR, G.o_isNB, G.o_isNS, G.o_is, G.o_ixT, G.o_ixL, G.o_ixS, G.at_0, G.at_1, G.o_lenL, G.o_lenT, G.o_lenC, G.o_lenS, G.o_max2, G.o_min2, G.o_intB, G.o_intI, G.o_listL, G.o_listT, G.o_listC, G.o_tupL, G.o_eqIt, G.o_eqIf, G.seq_lst, G.seq_scr, G.seq_ref, G.noRL_nil, G.noRL_cons, G.noR_non, G.noR_bl, G.noR_int, G.noR_str, G.noR_dic, G.noR_scr, G.noR_tup, G.noR_lst, G.isd_int, G.isd_intb, G.isd_bool, G.isd_boolb, G.isd_tup, G.isd_lst, G.isd_ref, G.live_lst, G.tgS_nm, G.tgS_tp2, List.getElem?_cons_zero, List.getElem?_cons_succ, List.set_cons_zero, List.set_cons_succ, List.length_cons, List.length_nil, List.nil_append, List.cons_append, Bool.and_true, Bool.true_and, Bool.and_self, Bool.not_true, Bool.not_false, decide_true, decide_false, Nat.reduceAdd, Int.reduceAdd, Int.reduceSub, Int.reduceMul, Int.reduceNeg, Int.cast_ofNat_Int, Int.natCast_zero, Int.natCast_one, eq_self, Int.reduceEq, Int.reduceLT, Int.reduceLE, o_mod (i := c) (j := 12) (by decide), o_div (i := c) (j := 12) (by decide) (by decide), o_mod (i := c / 12) (j := 9) (by decide), h, o_div (i := c) (j := 108) (by decide) (by decide), o_mod (i := c / 108) (j := 20) (by decide)]
    rw [Int.toNat_of_nonneg (by omega)]
  · refine ⟨(1 + c % 12).toNat, ?_, by omega, by omega⟩
    simp -implicitDefEqProofs only [↓G.e_seq, ↓G.e_skip, ↓G.e_asg, ↓G.e_drop, ↓G.e_ret, ↓G.e_raise, ↓G.e_raiseN, ↓G.e_if, ↓G.e_val, ↓G.e_not, ↓G.e_or, ↓G.e_and, ↓G.e_xand, ↓G.e_xor, ↓G.e_xnot, ↓G.e_var, ↓G.e_c, ↓G.e_bin, ↓G.e_un, ↓G.e_chain, ↓G.e_nil, ↓G.e_cons, ↓G.e_tup, ↓G.e_lst, ↓G.e_call, ↓G.e_callM, ↓G.e_callP, ↓G.e_callO, ↓G.e_for, ↓G.e_itSeq, ↓G.e_itTup, ↓G.e_itR1, ↓G.e_itR2, G.kk_ok, G.kk_ex, G.kF_nx, G.kF_rt, G.kF_ex, G.kI_t, G.kI_f, G.kT_nm, G.kT_tp2, G.kT_ex, G.kB_bl, G.kV_some, G.kO_some, G.kFor_ok, G.nX_n, G.nX_i, G.vB_bl, G.vT_t, G.kP_rt, G.kP_nx, G.kP_ex, G.kQ_some, G.kM_rt, G.kM_nx, G.kM_ex, G.kPO_ex, G.res_bl, G.res_int, G.res_str, G.res_non, G.thr_e, G.ret_e, G.up_ok, G.up_ex, G.upO_ok, G.upO_ex, G.mkL_t, G.mkL_n, G.o_sub, G.o_lt, G.o_le, G.o_gt, G.o_ge, G.o_add, G.o_neg, G.o_isN, G.o_isNI, G.o_isNT, G.o_isNL, G.o_isNR, G.o_isNB, G.o_isNS, G.o_is, G.o_ixT, G.o_ixL, G.o_ixS, G.at_0, G.at_1, G.o_lenL, G.o_lenT, G.o_lenC, G.o_lenS, G.o_max2, G.o_min2, G.o_intB, G.o_intI, G.o_listL, G.o_listT, G.o_listC, G.o_tupL, G.o_eqIt, G.o_eqIf, G.seq_lst, G.seq_scr, G.seq_ref, G.noRL_nil, G.noRL_cons, G.noR_non, G.noR_bl, G.noR_int, G.noR_str, G.noR_dic, G.noR_scr, G.noR_tup, G.noR_lst, G.isd_int, G.isd_intb, G.isd_bool, G.isd_boolb, G.isd_tup, G.isd_lst, G.isd_ref, G.live_lst, G.tgS_nm, G.tgS_tp2, List.getElem?_cons_zero, List.getElem?_cons_succ, List.set_cons_zero, List.set_cons_succ, List.length_cons, List.length_nil, List.nil_append, List.cons_append, Bool.and_true, Bool.true_and, Bool.and_self, Bool.not_true, Bool.not_false, decide_true, decide_false, Nat.reduceAdd, Int.reduceAdd, Int.reduceSub, Int.reduceMul, Int.reduceNeg, Int.cast_ofNat_Int, Int.natCast_zero, Int.natCast_one, eq_self, Int.reduceEq, Int.reduceLT, Int.reduceLE, o_mod (i := c) (j := 12) (by decide), o_div (i := c) (j := 12) (by decide) (by decide), o_mod (i := c / 12) (j := 9) (by decide), h]
    rw [Int.toNat_of_nonneg (by omega)]
theorem okD_layN (L : List (Nat × Nat)) : okD 2 (layN L) = true := by
  show (layD (L.map zz)).all (okD 1) = true
  rw [List.all_eq_true]
  intro y hy
  obtain ⟨p, _, rfl⟩ := List.mem_map.mp hy
  rfl
theorem noR_net (N : Net) : noR (netD N) = true := okD_noR 3 _ (okD_net N)
theorem copy_ok {N : NatNet} {s j : Nat} {env : En} {cs : Cs} (he : env[j]? = some (some (netD (natN N)))) (hN : N.length ≤ 1000000) {te : En → M D} (h : ∀ L ∈ N, te ((wip env [s]).set s (some (layN L))) cs = .ok (layN L) cs) :
    xLcN false (itSeq (xVar j)) [s] (.nm s) bYes te env cs = .ok (netD (natN N)) cs := by
  rw [netD_N] at he ⊢
  have hi : itSeq (xVar j) env cs = .ok ⟨N.map layN, liveOf (N.map layN) (.lst (N.map layN))⟩ cs := itSeq_ok (var_at he) rfl
  have g := lc_map (c := false) (own := [s]) (t := .nm s) (te := te) (fun d => d) hi rfl (by rw [List.length_map]; exact decide_eq_true hN) (fun x hx => by
      obtain ⟨L, hL, rfl⟩ := List.mem_map.mp hx
      exact ⟨_, rfl, h L hL⟩)
  rw [g, List.map_id']
  rfl
/-- a comprehension whose items are known to be of a kind -/
theorem lc_ex {it : En → M It0} {own : List Nat} {t : Tg} {te : En → M D} {env : En} {cs : Cs} {xs : List D} {live : Cs → Bool} (P : D → D → Prop) (hi : it env cs = .ok ⟨xs, live⟩ cs) (hl : live cs = true) (hz : xs.length ≤ 1000000)
    (h : ∀ x ∈ xs, ∃ env1 y, tgS t x (wip env own) = some env1 ∧ te env1 cs = .ok y cs ∧ P x y) : ∃ g : D → D, xLcN false it own t bYes te env cs = .ok (.lst (xs.map g)) cs ∧ ∀ x ∈ xs, P x (g x) := by
  classical
  let g : D → D := fun x => if q : ∃ y env1, tgS t x (wip env own) = some env1 ∧ te env1 cs = .ok y cs ∧ P x y then q.choose else .non
  have hg : ∀ x ∈ xs, ∃ env1, tgS t x (wip env own) = some env1 ∧ te env1 cs = .ok (g x) cs ∧ P x (g x) := fun x hx => by
    obtain ⟨env1, y, a, b, c⟩ := h x hx
    have q : ∃ y env1, tgS t x (wip env own) = some env1 ∧ te env1 cs = .ok y cs ∧ P x y := ⟨y, env1, a, b, c⟩
    have e : g x = q.choose := dif_pos q
    rw [e]
    exact q.choose_spec
  refine ⟨g, ?_, fun x hx => (hg x hx).choose_spec.2.2⟩
  rw [lc_map g hi hl (decide_eq_true hz) fun x hx => by
    obtain ⟨e, a, b, _⟩ := hg x hx
    exact ⟨e, a, b⟩]
  rfl
theorem o_all_true {α : Type} (xs : List α) (cs : Cs) : opAll [.lst (xs.map fun _ => D.bl true)] cs = .ok (.bl true) cs := by
  show (match (some (xs.map fun _ => D.bl true)).bind blsOf with
    | some bs => Rs.ok (D.bl (bs.all id)) cs
    | none => .no) = _
  rw [Option.bind_some, blsOf_map (fun _ => true)]
  have : (xs.map fun _ => true).all id = true := by
    rw [List.all_eq_true]
    intro b hb
    obtain ⟨_, _, rfl⟩ := List.mem_map.mp hb
    rfl
  show Rs.ok (D.bl ((xs.map fun _ => true).all id)) cs = _
  rw [this]
theorem eqf_refl {d : D} {n : Nat} (hd : okD n d = true) (hn : n ≤ 64) (cs : Cs) : opEq false d d cs = .ok (.bl false) cs := by
  rw [eq_ok hd hd hn hn, eqv_refl _ (okD_py n d hd).2.1]
  rfl
end LK
/-! Wt: how much the lines hold when a net is gone over: linear, monotone; bounds for bent nets. -/
namespace Wt
abbrev Lay := List (Nat × Nat)
abbrev WNet := List Lay
abbrev Wf := Nat → Nat
def addAt (w : Wf) (y : Nat) : Lay → Nat
  | [] => 0
  | p :: L => (if p.2 = y then w p.1 else 0) + addAt w y L
def layW (w : Wf) (L : Lay) : Wf := fun y => w y + addAt w y L
def goW : Wf → WNet → Wf
  | w, [] => w
  | w, L :: N => goW (layW w L) N
def tot (w : Wf) : Nat → Nat
  | 0 => 0
  | n + 1 => tot w n + w n
theorem addAt_add (w u : Wf) (y : Nat) : ∀ L : Lay, addAt (fun x => w x + u x) y L = addAt w y L + addAt u y L
  | [] => rfl
  | p :: L => by
    simp only [addAt, addAt_add w u y L]
    by_cases h : p.2 = y
    · simp only [h, if_true]; omega
    · simp only [h, if_false]; omega
theorem addAt_mono {w u : Wf} (h : ∀ x, w x ≤ u x) (y : Nat) : ∀ L : Lay, addAt w y L ≤ addAt u y L
  | [] => Nat.le_refl _
  | p :: L => by
    have := addAt_mono h y L
    have := h p.1
    simp only [addAt]
    by_cases q : p.2 = y
    · simp only [q, if_true]; omega
    · simp only [q, if_false]; omega
theorem goW_add : ∀ (N : WNet) (w u : Wf) (y : Nat), goW (fun x => w x + u x) N y = goW w N y + goW u N y
  | [], _, _, _ => rfl
  | L :: N, w, u, y => by
    show goW (layW (fun x => w x + u x) L) N y = goW (layW w L) N y + goW (layW u L) N y
    rw [← goW_add N]
    congr 1
    funext x
    simp only [layW, addAt_add]
    omega
theorem goW_mono : ∀ (N : WNet) {w u : Wf} (h : ∀ x, w x ≤ u x) (y : Nat), goW w N y ≤ goW u N y
  | [], _, _, h, y => h y
  | L :: N, w, u, h, y => goW_mono N (fun x => Nat.add_le_add (h x) (addAt_mono h x L)) y
theorem goW_ge : ∀ (N : WNet) (w : Wf) (y : Nat), w y ≤ goW w N y
  | [], _, _ => Nat.le_refl _
  | L :: N, w, y => Nat.le_trans (Nat.le_add_right _ _) (goW_ge N (layW w L) y)
theorem goW_app : ∀ (A B : WNet) (w : Wf), goW w (A ++ B) = goW (goW w A) B
  | [], _, _ => rfl
  | L :: A, B, w => goW_app A B (layW w L)
theorem tot_mono {w u : Wf} : ∀ (n : Nat), (∀ x, x < n → w x ≤ u x) → tot w n ≤ tot u n
  | 0, _ => Nat.le_refl _
  | n + 1, h => Nat.add_le_add (tot_mono n fun x hx => h x (by omega)) (h n (by omega))
theorem tot_le (w : Wf) : ∀ {m n : Nat}, m ≤ n → tot w m ≤ tot w n := fun {m n} h => by
  induction h with
  | refl => exact Nat.le_refl _
  | step _ ih => exact Nat.le_trans ih (Nat.le_add_right _ _)
theorem tot_one (h d : Nat) : ∀ n, tot (fun x => if x = h then d else 0) n ≤ d
  | 0 => Nat.zero_le _
  | n + 1 => by
    have e : ∀ m, m ≤ h → tot (fun x => if x = h then d else 0) m = 0 := fun m => by
      induction m with
      | zero => exact fun _ => rfl
      | succ m ih =>
        intro hm
        show tot _ m + (if m = h then d else 0) = 0
        rw [ih (by omega), if_neg (by omega)]
    show tot _ n + (if n = h then d else 0) ≤ d
    by_cases q : n = h
    · rw [e n (by omega), if_pos q]
      omega
    · rw [if_neg q]
      exact tot_one h d n
def Bd (n S : Nat) (N : WNet) : Prop := ∀ (w : Wf) (y : Nat), y < n → goW w N y ≤ S * tot w n
/-- fewer joints hold no more -/
theorem Bd.less {n S : Nat} {A B : WNet} {L L' : Lay} (h : Bd n S (A ++ L :: B)) (hl : ∀ w y, layW w L' y ≤ layW w L y) : Bd n S (A ++ L' :: B) := fun w y hy => by
  refine Nat.le_trans ?_ (h w y hy)
  rw [goW_app, goW_app]
  exact goW_mono B (fun x => hl _ x) y
theorem Bd.gone {n S : Nat} {A B : WNet} {L : Lay} (h : Bd n S (A ++ L :: B)) : Bd n S (A ++ B) := fun w y hy => by
  refine Nat.le_trans ?_ (h w y hy)
  rw [goW_app, goW_app]
  exact goW_mono B (fun x => Nat.le_add_right _ _) y
/-- one joint more -/
theorem Bd.more {n S : Nat} {A B : WNet} {L L' : Lay} {lo hi : Nat} (h : Bd n S (A ++ L :: B)) (h1 : lo < n) (hl : ∀ w y, layW w L' y ≤ layW w L y + if y = hi then w lo else 0) : Bd n (S + S * S) (A ++ L' :: B) := fun w y hy => by
  rw [goW_app]
  show goW (layW (goW w A) L') B y ≤ _
  have a1 : goW (layW (goW w A) L') B y ≤ goW (fun x => layW (goW w A) L x + if x = hi then (goW w A) lo else 0) B y := goW_mono B (hl _) y
  rw [goW_add] at a1
  have a2 : goW (layW (goW w A) L) B y ≤ S * tot w n := by
    have := h w y hy
    rw [goW_app] at this
    exact this
  have a3 : goW w A lo ≤ S * tot w n := by
    have := h w lo h1
    rw [goW_app] at this
    exact Nat.le_trans (goW_ge _ _ _) this
  have a4 : goW (fun x => if x = hi then (goW w A) lo else 0) B y ≤ S * (goW w A lo) := by
    have e := h (fun x => if x = hi then (goW w A) lo else 0) y hy
    refine Nat.le_trans ?_ (Nat.le_trans e (Nat.mul_le_mul_left _ (tot_one _ _ _)))
    rw [goW_app]
    exact goW_mono B (u := layW (goW (fun x => if x = hi then (goW w A) lo else 0) A) L) (fun x => Nat.le_trans (goW_ge A (fun x => if x = hi then (goW w A) lo else 0) x) (Nat.le_add_right _ _)) y
  have a5 : S * (goW w A lo) ≤ S * S * tot w n := by
    rw [Nat.mul_assoc]
    exact Nat.mul_le_mul_left _ a3
  rw [Nat.add_mul]
  omega
/-! ### the nets that tell -/
def sw (L : Lay) : List Tell.Jt := L.map fun p => (p.2, p.1)
theorem layGo_mem {v : Tell.St} : ∀ {L : List Tell.Jt} {now : Tell.St} {q : Tell.Jt}, (L.map (·.1)).Nodup → q ∈ L → Tell.layGo v L now q.1 = Tell.join (v q.2) (v q.1)
  | p :: L, now, q, nd, hq => by
    obtain ⟨n1, n2⟩ := List.nodup_cons.mp (show (p.1 :: L.map (·.1)).Nodup from nd)
    show Tell.layGo v L (Tell.upd now p.1 (Tell.join (v p.2) (v p.1))) q.1 = _
    rcases List.mem_cons.mp hq with e | e
    · subst e
      rw [Tell.layGo_other fun r hr z => n1 (by rw [← z]; exact List.mem_map.mpr ⟨r, hr, rfl⟩), Tell.upd_same]
    · exact layGo_mem n2 e
theorem lay_in {v : Tell.St} {L : Lay} (nd : (L.map (·.2)).Nodup) {p : Nat × Nat} (hp : p ∈ L) : Tell.layerS v (sw L) p.2 = Tell.join (v p.1) (v p.2) :=
  layGo_mem (q := (p.2, p.1)) (by unfold sw; rw [List.map_map]; exact nd) (List.mem_map.mpr ⟨p, hp, rfl⟩)
theorem lay_out {v : Tell.St} {L : Lay} {y : Nat} (h : ∀ p ∈ L, p.2 ≠ y) : Tell.layerS v (sw L) y = v y := Tell.layGo_other fun q hq => by
  obtain ⟨p, hp, rfl⟩ := List.mem_map.mp hq
  exact h p hp
theorem addAt_in {w : Wf} : ∀ {L : Lay}, (L.map (·.2)).Nodup → ∀ {p : Nat × Nat}, p ∈ L → addAt w p.2 L = w p.1
  | q :: L, nd, p, hp => by
    obtain ⟨n1, n2⟩ := List.nodup_cons.mp (show (q.2 :: L.map (·.2)).Nodup from nd)
    simp only [addAt]
    rcases List.mem_cons.mp hp with e | e
    · subst e
      rw [if_pos rfl]
      have : ∀ {M : Lay}, p.2 ∉ M.map (·.2) → addAt w p.2 M = 0 := fun {M} => by
        induction M with
        | nil => exact fun _ => rfl
        | cons q M ih =>
          intro h
          simp only [List.map_cons, List.mem_cons, not_or] at h
          simp only [addAt, ih h.2, if_neg (Ne.symm h.1)]
      rw [this n1]
      rfl
    · rw [if_neg fun z => n1 (by rw [z]; exact List.mem_map.mpr ⟨p, e, rfl⟩), addAt_in n2 e]
      omega
theorem addAt_out {w : Wf} {y : Nat} : ∀ {L : Lay}, (∀ p ∈ L, p.2 ≠ y) → addAt w y L = 0
  | [], _ => rfl
  | q :: L, h => by
    simp only [addAt, if_neg (h q List.mem_cons_self), addAt_out fun p hp => h p (List.mem_cons_of_mem _ hp)]
/-- what holds nothing told stays so -/
theorem none_lay {v : Tell.St} {L : Lay} (nd : (L.map (·.2)).Nodup) {y : Nat} (h : v y = none) : Tell.layerS v (sw L) y = none := by
  by_cases q : ∃ p ∈ L, p.2 = y
  · obtain ⟨p, hp, rfl⟩ := q
    rw [lay_in nd hp, h]
    cases v p.1 <;> rfl
  · rw [lay_out fun p hp e => q ⟨p, hp, e⟩]
    exact h
theorem none_net {y : Nat} : ∀ {N : WNet} {v : Tell.St}, (∀ L ∈ N, (L.map (·.2)).Nodup) → v y = none → Tell.netS v (N.map sw) y = none
  | [], _, _, h => h
  | L :: N, v, nd, h => none_net (N := N) (v := Tell.layerS v (sw L)) (fun K hK => nd K (List.mem_cons_of_mem _ hK)) (none_lay (nd L List.mem_cons_self) h)
theorem some_net {y : Nat} {N : WNet} {v : Tell.St} (nd : ∀ L ∈ N, (L.map (·.2)).Nodup) {z : Nat × Nat} (h : Tell.netS v (N.map sw) y = some z) : ∃ u, v y = some u := by
  cases q : v y with
  | none =>
    rw [none_net nd q] at h
    cases h
  | some u => exact ⟨u, rfl⟩
/-- each line holds what is told of a stretch that ends at it -/
def Hold (n : Nat) (v : Tell.St) : Prop := ∀ y x z, y < n → v y = some (x, z) → z = y ∧ x ≤ y
theorem hold0 (n : Nat) : Hold n Tell.v0 := fun y x z _ h => by
  cases h
  exact ⟨rfl, Nat.le_refl _⟩
theorem join_some {a b : Tell.Iv} {x z : Nat} (h : Tell.join a b = some (x, z)) : ∃ c d, a = some (x, c) ∧ b = some (d, z) ∧ c + 1 = d := by
  unfold Tell.join at h
  split at h
  · rename_i a b c d
    split at h
    · rename_i e
      cases h
      exact ⟨b, c, rfl, rfl, e⟩
    · cases h
  · cases h
theorem hold_lay {n : Nat} {v : Tell.St} {L : Lay} (nd : (L.map (·.2)).Nodup) (rg : ∀ p ∈ L, p.1 < p.2 ∧ p.2 < n) (h : Hold n v) : Hold n (Tell.layerS v (sw L)) := fun y x z hy e => by
  by_cases q : ∃ p ∈ L, p.2 = y
  · obtain ⟨p, hp, rfl⟩ := q
    rw [lay_in nd hp] at e
    obtain ⟨c, d, e1, e2, e3⟩ := join_some e
    obtain ⟨f1, f2⟩ := h p.1 x c (by have := rg p hp; omega) e1
    obtain ⟨g1, g2⟩ := h p.2 d z hy e2
    exact ⟨g1, by omega⟩
  · rw [lay_out fun p hp e => q ⟨p, hp, e⟩] at e
    exact h y x z hy e
theorem tell_w {n : Nat} {w0 : Wf} : ∀ {N : WNet} {v : Tell.St} {w : Wf}, (∀ L ∈ N, (L.map (·.2)).Nodup) → (∀ L ∈ N, ∀ p ∈ L, p.1 < p.2 ∧ p.2 < n) → Hold n v → (∀ y x z, y < n → v y = some (x, z) → w y + tot w0 x ≤ tot w0 (y + 1)) →
    (∀ y, y < n → ∃ u, Tell.netS v (N.map sw) y = some u) → ∀ y x z, y < n → Tell.netS v (N.map sw) y = some (x, z) → goW w N y + tot w0 x ≤ tot w0 (y + 1)
  | [], v, w, _, _, _, h, _, y, x, z, hy, e => h y x z hy e
  | L :: N, v, w, nd, rg, hh, h, ha, y, x, z, hy, e => by
    have nd1 := nd L List.mem_cons_self
    have rg1 := rg L List.mem_cons_self
    have nd2 := fun K hK => nd K (List.mem_cons_of_mem _ hK)
    refine tell_w (N := N) (v := Tell.layerS v (sw L)) (w := layW w L) nd2 (fun K hK => rg K (List.mem_cons_of_mem _ hK)) (hold_lay nd1 rg1 hh) (fun y x z hy e => ?_) ha y x z hy e
    by_cases q : ∃ p ∈ L, p.2 = y
    · obtain ⟨p, hp, rfl⟩ := q
      rw [lay_in nd1 hp] at e
      obtain ⟨c, d, e1, e2, e3⟩ := join_some e
      have hl : p.1 < n := by have := rg1 p hp; omega
      have f := h p.1 x c hl e1
      have g := h p.2 d z hy e2
      have k := (hh p.1 x c hl e1).1
      show w p.2 + addAt w p.2 L + tot w0 x ≤ _
      rw [addAt_in nd1 hp]
      subst k
      rw [← e3] at g
      omega
    · rw [lay_out fun p hp e => q ⟨p, hp, e⟩] at e
      show w y + addAt w y L + tot w0 x ≤ _
      rw [addAt_out fun p hp e => q ⟨p, hp, e⟩]
      exact h y x z hy e
theorem tell_bd {n : Nat} {N : WNet} (nd : ∀ L ∈ N, (L.map (·.2)).Nodup) (rg : ∀ L ∈ N, ∀ p ∈ L, p.1 < p.2 ∧ p.2 < n) (ht : ∀ y, y < n → Tell.netS Tell.v0 (N.map sw) y = some (0, y)) : Bd n 1 N := fun w y hy => by
  have := tell_w (w0 := w) (w := w) nd rg (hold0 n) (fun y x z _ e => by
    cases e
    show w y + tot w y ≤ tot w y + w y
    omega) (fun y hy => ⟨_, ht y hy⟩) y 0 y hy (ht y hy)
  have t := tot_le w (show y + 1 ≤ n from hy)
  have z : tot w 0 = 0 := rfl
  omega
end Wt
namespace LK
open L2 G PySem PySem.Spec PyProof.Rows
/-! ### nets that are made: what they are, and that they tell -/
/-- valid, and telling -/
structure Good (n : Nat) (N : NatNet) : Prop where
  V : Valid n N
  t : ∀ y, y < n → Tell.netS Tell.v0 (N.map Wt.sw) y = some (0, y)
theorem Valid.nd {n : Nat} {N : NatNet} (V : Valid n N) : ∀ L ∈ N, (L.map (·.2)).Nodup := fun L hL => (List.pairwise_map.mpr (V.up L hL)).imp fun h => Nat.ne_of_lt h
theorem lay_ok {L : List (Nat × Nat)} (up : L.Pairwise fun a b => a.2 < b.2) : (L.map (·.2)).Nodup := (List.pairwise_map.mpr up).imp fun h => Nat.ne_of_lt h
/-- one layer of a big net does over the image of g as one of a small net -/
def Emb (g : Nat → Nat) (m : Nat) (L K : List (Nat × Nat)) : Prop :=
  ∀ y, y < m → (∀ p ∈ K, p.2 = y → (g p.1, g y) ∈ L) ∧ ((∀ p ∈ K, p.2 ≠ y) → ∀ q ∈ L, q.2 ≠ g y)
inductive EmbN (g : Nat → Nat) (m : Nat) : NatNet → NatNet → Prop
  | nil : EmbN g m [] []
  | cons {L K B S} : Emb g m L K → EmbN g m B S → EmbN g m (L :: B) (K :: S)
  | skip {L B S} : (∀ y, y < m → ∀ q ∈ L, q.2 ≠ g y) → EmbN g m B S → EmbN g m (L :: B) S
def mv (h : Nat × Nat → Nat × Nat) : Tell.Iv → Tell.Iv := Option.map h
structure Cm (h : Nat × Nat → Nat × Nat) : Prop where
  join : ∀ a b : Tell.Iv, Tell.join (mv h a) (mv h b) = mv h (Tell.join a b)
theorem cm_of {f k : Nat → Nat} (e : ∀ b c, f b + 1 = k c ↔ b + 1 = c) : Cm fun p => (k p.1, f p.2) := ⟨fun a b => by
  cases a with
  | none => cases b <;> rfl
  | some a =>
    cases b with
    | none => rfl
    | some b =>
      obtain ⟨a1, a2⟩ := a
      obtain ⟨b1, b2⟩ := b
      show (if f a2 + 1 = k b1 then some (k a1, f b2) else none) = mv _ (if a2 + 1 = b1 then some (a1, b2) else none)
      by_cases q : a2 + 1 = b1
      · rw [if_pos q, if_pos ((e a2 b1).mpr q)]
        rfl
      · rw [if_neg q, if_neg fun z => q ((e a2 b1).mp z)]
        rfl⟩
theorem emb_lay {g : Nat → Nat} {h : Nat × Nat → Nat × Nat} {m : Nat} {L K : List (Nat × Nat)} {V v : Tell.St} (H : Cm h) (E : Emb g m L K) (nL : (L.map (·.2)).Nodup) (nK : (K.map (·.2)).Nodup) (rK : ∀ p ∈ K, p.1 < p.2 ∧ p.2 < m) (hv : ∀ y, y < m → V (g y) = mv h (v y)) :
    ∀ y, y < m → Tell.layerS V (Wt.sw L) (g y) = mv h (Tell.layerS v (Wt.sw K) y) := fun y hy => by
  obtain ⟨e1, e2⟩ := E y hy
  by_cases q : ∃ p ∈ K, p.2 = y
  · obtain ⟨p, hp, rfl⟩ := q
    have r := rK p hp
    have := Wt.lay_in (v := V) nL (e1 p hp rfl)
    rw [this, Wt.lay_in nK hp]
    show Tell.join (V (g p.1)) (V (g p.2)) = _
    rw [hv _ (by omega), hv _ hy, H.join]
  · have q' : ∀ p ∈ K, p.2 ≠ y := fun p hp e => q ⟨p, hp, e⟩
    rw [Wt.lay_out (e2 q'), Wt.lay_out q']
    exact hv y hy
theorem emb_net {g : Nat → Nat} {h : Nat × Nat → Nat × Nat} {m : Nat} (H : Cm h) {B S : NatNet} (E : EmbN g m B S) : ∀ {V v : Tell.St}, (∀ L ∈ B, (L.map (·.2)).Nodup) → (∀ L ∈ S, (L.map (·.2)).Nodup) → (∀ L ∈ S, ∀ p ∈ L, p.1 < p.2 ∧ p.2 < m) → (∀ y, y < m → V (g y) = mv h (v y)) →
    ∀ y, y < m → Tell.netS V (B.map Wt.sw) (g y) = mv h (Tell.netS v (S.map Wt.sw) y) := by
  induction E with
  | nil => exact fun _ _ _ hv => hv
  | cons e _ ih => exact fun nB nS rS hv => ih (fun L hL => nB L (List.mem_cons_of_mem _ hL)) (fun L hL => nS L (List.mem_cons_of_mem _ hL)) (fun L hL => rS L (List.mem_cons_of_mem _ hL)) (emb_lay H e (nB _ List.mem_cons_self) (nS _ List.mem_cons_self) (rS _ List.mem_cons_self) hv)
  | skip e _ ih => exact fun nB nS rS hv => ih (fun L hL => nB L (List.mem_cons_of_mem _ hL)) nS rS fun y hy => (Wt.lay_out (e y hy)).trans (hv y hy)
theorem net_out {y : Nat} : ∀ {B : NatNet} {V : Tell.St}, (∀ L ∈ B, ∀ q ∈ L, q.2 ≠ y) → Tell.netS V (B.map Wt.sw) y = V y
  | [], _, _ => rfl
  | L :: B, V, h => (net_out (B := B) (V := Tell.layerS V (Wt.sw L)) fun K hK => h K (List.mem_cons_of_mem _ hK)).trans (Wt.lay_out (h L List.mem_cons_self))
theorem netS_app (v : Tell.St) (A B : NatNet) : Tell.netS v ((A ++ B).map Wt.sw) = Tell.netS (Tell.netS v (A.map Wt.sw)) (B.map Wt.sw) := by
  rw [List.map_append, Tell.net_append]
/-! #### beside one another -/
def upL (k : Nat) (L : List (Nat × Nat)) : List (Nat × Nat) := L.map fun p => (p.1 + k, p.2 + k)
def sideN : NatNet → NatNet → NatNet
  | [], B => B
  | A, [] => A
  | a :: A, b :: B => (a ++ b) :: sideN A B
def lastL (n m : Nat) : List (Nat × Nat) := (List.range m).map fun k => (n - 1, n + k)
def behN (n m : Nat) (N M : NatNet) : NatNet := sideN N (M.map (upL n)) ++ [lastL n m]
theorem sideN_nil : ∀ A : NatNet, sideN A [] = A
  | [] => rfl
  | _ :: _ => rfl
theorem sideN_len : ∀ A B : NatNet, (sideN A B).length = max A.length B.length
  | [], B => by simp [sideN]
  | a :: A, [] => by simp [sideN]
  | a :: A, b :: B => by
    show (sideN A B).length + 1 = _
    rw [sideN_len A B]
    simp only [List.length_cons]
    omega
theorem sideN_get : ∀ (A B : NatNet) (i : Nat), (sideN A B).getD i [] = A.getD i [] ++ B.getD i []
  | [], B, i => by simp [sideN]
  | a :: A, [], i => by simp [sideN]
  | a :: A, b :: B, 0 => rfl
  | a :: A, b :: B, i + 1 => sideN_get A B i
theorem sideN_mem : ∀ {A B : NatNet} {L : List (Nat × Nat)}, L ∈ sideN A B → L ∈ A ∨ L ∈ B ∨ ∃ a ∈ A, ∃ b ∈ B, L = a ++ b
  | [], B, L, h => .inr (.inl h)
  | a :: A, [], L, h => .inl h
  | a :: A, b :: B, L, h => by
    rcases List.mem_cons.mp h with h | h
    · exact .inr (.inr ⟨a, List.mem_cons_self, b, List.mem_cons_self, h⟩)
    · rcases sideN_mem h with h | h | ⟨a', h1, b', h2, h3⟩
      · exact .inl (List.mem_cons_of_mem _ h)
      · exact .inr (.inl (List.mem_cons_of_mem _ h))
      · exact .inr (.inr ⟨a', List.mem_cons_of_mem _ h1, b', List.mem_cons_of_mem _ h2, h3⟩)
theorem upL_mem {k : Nat} {L : List (Nat × Nat)} {q : Nat × Nat} : q ∈ upL k L ↔ ∃ p ∈ L, q = (p.1 + k, p.2 + k) := by
  unfold upL
  rw [List.mem_map]
  exact ⟨fun ⟨p, h, e⟩ => ⟨p, h, e.symm⟩, fun ⟨p, h, e⟩ => ⟨p, h, e.symm⟩⟩
theorem emb_low {n : Nat} {a b : List (Nat × Nat)} (hb : ∀ q ∈ b, n ≤ q.2) : Emb (fun y => y) n (a ++ b) a := fun y hy =>
  ⟨fun p hp e => by subst e; exact List.mem_append_left _ hp, fun h q hq => (List.mem_append.mp hq).elim (h q) fun hq => by
    have := hb q hq
    dsimp only
    omega⟩
theorem emb_high {n m : Nat} {a b : List (Nat × Nat)} (ha : ∀ q ∈ a, q.2 < n) : Emb (fun y => y + n) m (a ++ upL n b) b := fun y hy =>
  ⟨fun p hp e => by
    subst e
    exact List.mem_append_right _ (upL_mem.mpr ⟨p, hp, rfl⟩), fun h q hq => (List.mem_append.mp hq).elim (fun hq => by
      have := ha q hq
      dsimp only
      omega) fun hq => by
      obtain ⟨p, hp, rfl⟩ := upL_mem.mp hq
      have := h p hp
      show p.2 + n ≠ y + n
      omega⟩
theorem embN_low {n : Nat} : ∀ {A B : NatNet}, (∀ L ∈ B, ∀ q ∈ L, n ≤ q.2) → EmbN (fun y => y) n (sideN A B) A
  | [], [], _ => .nil
  | [], b :: B, h => .skip (fun y hy q hq => by have := h b List.mem_cons_self q hq; omega) (embN_low (A := []) (B := B) fun L hL => h L (List.mem_cons_of_mem _ hL))
  | a :: A, [], h => .cons (by have := emb_low (a := a) (b := []) (n := n) (fun q hq => nomatch hq); rwa [List.append_nil] at this) (by have := embN_low (n := n) (A := A) (B := []) (fun L hL => nomatch hL); rwa [sideN_nil] at this)
  | a :: A, b :: B, h => .cons (emb_low (h b List.mem_cons_self)) (embN_low fun L hL => h L (List.mem_cons_of_mem _ hL))
theorem embN_high {n m : Nat} : ∀ {A B : NatNet}, (∀ L ∈ A, ∀ q ∈ L, q.2 < n) → EmbN (fun y => y + n) m (sideN A (B.map (upL n))) B
  | [], [], _ => .nil
  | [], b :: B, h => .cons (by have := emb_high (a := []) (b := b) (n := n) (m := m) (fun q hq => nomatch hq); rwa [List.nil_append] at this) (embN_high (A := []) (B := B) h)
  | a :: A, [], h => .skip (fun y hy q hq => by have := h a List.mem_cons_self q hq; omega) (by have := embN_high (n := n) (m := m) (A := A) (B := []) (fun L hL => h L (List.mem_cons_of_mem _ hL)); rwa [List.map_nil, sideN_nil] at this)
  | a :: A, b :: B, h => .cons (emb_high (h a List.mem_cons_self)) (embN_high fun L hL => h L (List.mem_cons_of_mem _ hL))
theorem lastL_mem {n m : Nat} {q : Nat × Nat} : q ∈ lastL n m ↔ ∃ k, k < m ∧ q = (n - 1, n + k) := by
  unfold lastL
  rw [List.mem_map]
  exact ⟨fun ⟨k, h, e⟩ => ⟨k, List.mem_range.mp h, e.symm⟩, fun ⟨k, h, e⟩ => ⟨k, List.mem_range.mpr h, e.symm⟩⟩
theorem beh_valid {n m : Nat} {N M : NatNet} (h1 : 1 ≤ n) (h2 : 1 ≤ m) (V : Valid n N) (W : Valid m M) : Valid (n + m) (behN n m N M) := by
  have upv : ∀ b ∈ M, (upL n b).Pairwise fun a b => a.2 < b.2 := fun b hb => List.pairwise_map.mpr ((W.up b hb).imp fun h => by omega)
  have uprg : ∀ b ∈ M, ∀ q ∈ upL n b, q.1 < q.2 ∧ n ≤ q.2 ∧ q.2 < n + m := fun b hb q hq => by
    obtain ⟨p, hp, rfl⟩ := upL_mem.mp hq
    have := W.rg b hb p hp
    dsimp only
    omega
  have all : ∀ L ∈ behN n m N M, L ≠ [] ∧ (L.Pairwise fun a b => a.2 < b.2) ∧ ∀ p ∈ L, p.1 < p.2 ∧ p.2 < n + m := fun L hL => by
    rcases List.mem_append.mp hL with hL | hL
    · rcases sideN_mem hL with h | h | ⟨a, ha, b', hb, rfl⟩
      · exact ⟨V.ne L h, V.up L h, fun p hp => by have := V.rg L h p hp; omega⟩
      · obtain ⟨b, hb, rfl⟩ := List.mem_map.mp h
        exact ⟨fun z => W.ne b hb (List.map_eq_nil_iff.mp z), upv b hb, fun p hp => by have := uprg b hb p hp; omega⟩
      · obtain ⟨b, hb', rfl⟩ := List.mem_map.mp hb
        refine ⟨fun z => V.ne a ha (List.append_eq_nil_iff.mp z).1, List.pairwise_append.mpr ⟨V.up a ha, upv b hb',  fun p hp q hq => ?_⟩, fun p hp => ?_⟩
        · have e1 := V.rg a ha p hp
          have e2 := uprg b hb' q hq
          omega
        · rcases List.mem_append.mp hp with hp | hp
          · have e1 := V.rg a ha p hp
            omega
          · have e2 := uprg b hb' p hp
            omega
    · rw [List.mem_singleton.mp hL]
      refine ⟨fun z => ?_, ?_, fun p hp => ?_⟩
      · have := congrArg List.length z
        simp [lastL] at this
        omega
      · unfold lastL
        exact List.pairwise_map.mpr (List.pairwise_lt_range.imp fun h => by omega)
      · obtain ⟨k, hk, rfl⟩ := lastL_mem.mp hp
        dsimp only
        omega
  exact ⟨fun L hL => (all L hL).1, fun L hL => (all L hL).2.1, fun L hL => (all L hL).2.2⟩
theorem beh_good {n m : Nat} {N M : NatNet} (h1 : 1 ≤ n) (h2 : 1 ≤ m) (A : Good n N) (B : Good m M) : Good (n + m) (behN n m N M) := by
  have VV := beh_valid h1 h2 A.V B.V
  refine ⟨VV, fun y hy => ?_⟩
  have nS : ∀ L ∈ sideN N (M.map (upL n)), (L.map (·.2)).Nodup := fun L hL => VV.nd L (List.mem_append_left _ hL)
  have lo : ∀ y, y < n → Tell.netS Tell.v0 ((sideN N (M.map (upL n))).map Wt.sw) y = some (0, y) := fun y hy => by
    have e := emb_net (h := fun p => (p.1, p.2)) (cm_of (f := fun b => b) (k := fun b => b) fun b c => Iff.rfl) (embN_low (n := n) (A := N) (B := M.map (upL n)) fun L hL q hq => by
      obtain ⟨b, hb, rfl⟩ := List.mem_map.mp hL
      obtain ⟨p, hp, rfl⟩ := upL_mem.mp hq
      dsimp only
      omega) (V := Tell.v0) (v := Tell.v0) nS A.V.nd A.V.rg (fun y _ => rfl) y hy
    rw [e, A.t y hy]
    rfl
  have hi : ∀ y, y < m → Tell.netS Tell.v0 ((sideN N (M.map (upL n))).map Wt.sw) (y + n) = some (n, y + n) := fun y hy => by
    have e := emb_net (h := fun p => (p.1 + n, p.2 + n)) (cm_of (f := fun b => b + n) (k := fun b => b + n) fun b c => by omega) (embN_high (n := n) (m := m) (A := N) (B := M) fun L hL q hq => (A.V.rg L hL q hq).2) (V := Tell.v0) (v := Tell.v0) nS B.V.nd B.V.rg (fun y _ => rfl) y hy
    rw [e, B.t y hy]
    show some (0 + n, y + n) = _
    rw [Nat.zero_add]
  unfold behN
  rw [netS_app]
  show Tell.layerS _ (Wt.sw (lastL n m)) y = _
  by_cases q : y < n
  · rw [Wt.lay_out fun p hp => by
      obtain ⟨k, hk, rfl⟩ := lastL_mem.mp hp
      dsimp only
      omega]
    exact lo y q
  · have nl : ((lastL n m).map (·.2)).Nodup := VV.nd _ (List.mem_append_right _ (List.mem_singleton.mpr rfl))
    have hp : (n - 1, y) ∈ lastL n m := lastL_mem.mpr ⟨y - n, by omega, by rw [show n + (y - n) = y by omega]⟩
    have e := Wt.lay_in (v := Tell.netS Tell.v0 ((sideN N (M.map (upL n))).map Wt.sw)) nl hp
    have e2 := hi (y - n) (by omega)
    rw [show y - n + n = y by omega] at e2
    rw [e]
    show Tell.join (Tell.netS _ _ (n - 1)) (Tell.netS _ _ y) = _
    rw [lo (n - 1) (by omega), e2]
    show (if n - 1 + 1 = n then some (0, y) else none) = _
    rw [if_pos (by omega)]
theorem good_one : Good 1 [] := ⟨⟨(fun L h => nomatch h), (fun L h => nomatch h), (fun L h => nomatch h)⟩, fun y hy => by
  rw [show y = 0 by omega]
  rfl⟩
/-! #### around -/
def oddL (L : List (Nat × Nat)) : List (Nat × Nat) := L.map fun p => (2 * p.1 + 1, 2 * p.2 + 1)
def firstP (n : Nat) : List (Nat × Nat) := (List.range (n / 2)).map fun i => (2 * i, 2 * i + 1)
def lastP (n : Nat) : List (Nat × Nat) := (List.range ((n - 1) / 2)).map fun i => (2 * i + 1, 2 * i + 2)
def aroN (n : Nat) (I : NatNet) : NatNet := [firstP n] ++ I.map oddL ++ (if lastP n = [] then [] else [lastP n])
theorem oddL_mem {L : List (Nat × Nat)} {q : Nat × Nat} : q ∈ oddL L ↔ ∃ p ∈ L, q = (2 * p.1 + 1, 2 * p.2 + 1) := by
  unfold oddL
  rw [List.mem_map]
  exact ⟨fun ⟨p, h, e⟩ => ⟨p, h, e.symm⟩, fun ⟨p, h, e⟩ => ⟨p, h, e.symm⟩⟩
theorem firstP_mem {n : Nat} {q : Nat × Nat} : q ∈ firstP n ↔ ∃ i, 2 * i + 1 < n ∧ q = (2 * i, 2 * i + 1) := by
  unfold firstP
  rw [List.mem_map]
  exact ⟨fun ⟨k, h, e⟩ => ⟨k, by have := List.mem_range.mp h; omega, e.symm⟩, fun ⟨k, h, e⟩ => ⟨k, List.mem_range.mpr (by omega), e.symm⟩⟩
theorem lastP_mem {n : Nat} {q : Nat × Nat} : q ∈ lastP n ↔ ∃ i, 2 * i + 2 < n ∧ q = (2 * i + 1, 2 * i + 2) := by
  unfold lastP
  rw [List.mem_map]
  exact ⟨fun ⟨k, h, e⟩ => ⟨k, by have := List.mem_range.mp h; omega, e.symm⟩, fun ⟨k, h, e⟩ => ⟨k, List.mem_range.mpr (by omega), e.symm⟩⟩
theorem firstP_up (n : Nat) : (firstP n).Pairwise fun a b => a.2 < b.2 := List.pairwise_map.mpr (List.pairwise_lt_range.imp fun h => by omega)
theorem lastP_up (n : Nat) : (lastP n).Pairwise fun a b => a.2 < b.2 := List.pairwise_map.mpr (List.pairwise_lt_range.imp fun h => by omega)
theorem aro_valid {n : Nat} {I : NatNet} (h1 : 2 ≤ n) (V : Valid (n / 2) I) : Valid n (aroN n I) := by
  have all : ∀ L ∈ aroN n I, L ≠ [] ∧ (L.Pairwise fun a b => a.2 < b.2) ∧ ∀ p ∈ L, p.1 < p.2 ∧ p.2 < n := fun L hL => by
    rcases List.mem_append.mp hL with hL | hL
    · rcases List.mem_append.mp hL with hL | hL
      · rw [List.mem_singleton.mp hL]
        refine ⟨fun z => ?_, firstP_up n, fun p hp => ?_⟩
        · have := congrArg List.length z
          simp [firstP] at this
          omega
        · obtain ⟨i, hi, rfl⟩ := firstP_mem.mp hp
          dsimp only
          omega
      · obtain ⟨K, hK, rfl⟩ := List.mem_map.mp hL
        refine ⟨fun z => V.ne K hK (List.map_eq_nil_iff.mp z), List.pairwise_map.mpr ((V.up K hK).imp fun h => by omega), fun p hp => ?_⟩
        obtain ⟨q, hq, rfl⟩ := oddL_mem.mp hp
        have := V.rg K hK q hq
        dsimp only
        omega
    · by_cases e : lastP n = []
      · rw [if_pos e] at hL
        cases hL
      · rw [if_neg e] at hL
        rw [List.mem_singleton.mp hL]
        refine ⟨e, lastP_up n, fun p hp => ?_⟩
        obtain ⟨i, hi, rfl⟩ := lastP_mem.mp hp
        dsimp only
        omega
  exact ⟨fun L hL => (all L hL).1, fun L hL => (all L hL).2.1, fun L hL => (all L hL).2.2⟩
theorem embN_odd {m : Nat} : ∀ I : NatNet, EmbN (fun y => 2 * y + 1) m (I.map oddL) I
  | [] => .nil
  | L :: I => .cons (fun y _ => ⟨fun p hp e => by
      subst e
      exact oddL_mem.mpr ⟨p, hp, rfl⟩, fun h q hq => by
      obtain ⟨p, hp, rfl⟩ := oddL_mem.mp hq
      have := h p hp
      dsimp only
      omega⟩) (embN_odd I)
theorem aro_good {n : Nat} {I : NatNet} (h1 : 2 ≤ n) (A : Good (n / 2) I) : Good n (aroN n I) := by
  have VV := aro_valid h1 A.V
  refine ⟨VV, fun y hy => ?_⟩
  have f1 : ∀ y, y < n / 2 → Tell.layerS Tell.v0 (Wt.sw (firstP n)) (2 * y + 1) = some (2 * y, 2 * y + 1) := fun y hy => by
    have e := Wt.lay_in (v := Tell.v0) (lay_ok (firstP_up n)) (p := (2 * y, 2 * y + 1)) (firstP_mem.mpr ⟨y, by omega, rfl⟩)
    rw [e]
    show (if 2 * y + 1 = 2 * y + 1 then some (2 * y, 2 * y + 1) else none) = _
    rw [if_pos rfl]
  have f2 : ∀ y, Tell.layerS Tell.v0 (Wt.sw (firstP n)) (2 * y) = some (2 * y, 2 * y) := fun y => Wt.lay_out fun p hp => by
    obtain ⟨i, _, rfl⟩ := firstP_mem.mp hp
    dsimp only
    omega
  have nI : ∀ L ∈ I.map oddL, (L.map (·.2)).Nodup := fun L hL => VV.nd L (List.mem_append_left _ (List.mem_append_right _ hL))
  have g1 : ∀ y, y < n / 2 → Tell.netS (Tell.layerS Tell.v0 (Wt.sw (firstP n))) ((I.map oddL).map Wt.sw) (2 * y + 1) = some (0, 2 * y + 1) := fun y hy => by
    have e := emb_net (h := fun p => (2 * p.1, 2 * p.2 + 1)) (cm_of (f := fun b => 2 * b + 1) (k := fun b => 2 * b) fun b c => by omega) (embN_odd (m := n / 2) I) (V := Tell.layerS Tell.v0 (Wt.sw (firstP n))) (v := Tell.v0) nI A.V.nd A.V.rg (fun y hy => f1 y hy) y hy
    rw [e, A.t y hy]
    rfl
  have g2 : ∀ y, Tell.netS (Tell.layerS Tell.v0 (Wt.sw (firstP n))) ((I.map oddL).map Wt.sw) (2 * y) = some (2 * y, 2 * y) := fun y => by
    rw [net_out fun L hL q hq => ?_]
    · exact f2 y
    · obtain ⟨K, hK, rfl⟩ := List.mem_map.mp hL
      obtain ⟨p, hp, rfl⟩ := oddL_mem.mp hq
      dsimp only
      omega
  have fin : Tell.layerS (Tell.netS (Tell.layerS Tell.v0 (Wt.sw (firstP n))) ((I.map oddL).map Wt.sw)) (Wt.sw (lastP n)) y = some (0, y) := by
    rcases (show y = 0 ∨ (∃ i, y = 2 * i + 1) ∨ ∃ i, y = 2 * i + 2 from (by
      by_cases a : y = 0
      · exact .inl a
      · by_cases b : y % 2 = 1
        · exact .inr (.inl ⟨y / 2, by omega⟩)
        · exact .inr (.inr ⟨y / 2 - 1, by omega⟩))) with rfl | ⟨i, rfl⟩ | ⟨i, rfl⟩
    · rw [Wt.lay_out fun p hp => by
        obtain ⟨i, _, rfl⟩ := lastP_mem.mp hp
        dsimp only
        omega]
      exact g2 0
    · rw [Wt.lay_out fun p hp => by
        obtain ⟨i, _, rfl⟩ := lastP_mem.mp hp
        dsimp only
        omega]
      exact g1 i (by omega)
    · have e := Wt.lay_in (v := Tell.netS (Tell.layerS Tell.v0 (Wt.sw (firstP n))) ((I.map oddL).map Wt.sw)) (lay_ok (lastP_up n)) (p := (2 * i + 1, 2 * i + 2)) (lastP_mem.mpr ⟨i, by omega, rfl⟩)
      have e2 := g2 (i + 1)
      rw [show 2 * (i + 1) = 2 * i + 2 by omega] at e2
      rw [e]
      show Tell.join (Tell.netS _ _ (2 * i + 1)) (Tell.netS _ _ (2 * i + 2)) = _
      rw [g1 i (by omega), e2]
      show (if 2 * i + 1 + 1 = 2 * i + 2 then some (0, 2 * i + 2) else none) = _
      rw [if_pos (by omega)]
  unfold aroN
  rw [netS_app, netS_app]
  by_cases e : lastP n = []
  · rw [if_pos e]
    rw [e] at fin
    exact fin
  · rw [if_neg e]
    exact fin
/-! #### doubled, one by one -/
def dblL (n f : Nat) : List (Nat × Nat) := (List.range (n - f)).map fun i => (i, i + f)
def dblN (n : Nat) : Nat → Nat → NatNet
  | _, 0 => []
  | f, k + 1 => if f < n then dblL n f :: dblN n (2 * f) k else []
theorem dblL_mem {n f : Nat} {q : Nat × Nat} : q ∈ dblL n f ↔ ∃ i, i + f < n ∧ q = (i, i + f) := by
  unfold dblL
  rw [List.mem_map]
  exact ⟨fun ⟨k, h, e⟩ => ⟨k, by have := List.mem_range.mp h; omega, e.symm⟩, fun ⟨k, h, e⟩ => ⟨k, List.mem_range.mpr (by omega), e.symm⟩⟩
theorem dblL_up (n f : Nat) : (dblL n f).Pairwise fun a b => a.2 < b.2 := List.pairwise_map.mpr (List.pairwise_lt_range.imp fun h => by omega)
theorem dbl_valid {n : Nat} : ∀ {k f : Nat}, 1 ≤ f → ∀ L ∈ dblN n f k, L ≠ [] ∧ (L.Pairwise fun a b => a.2 < b.2) ∧ ∀ p ∈ L, p.1 < p.2 ∧ p.2 < n
  | 0, _, _ => fun L hL => nomatch hL
  | k + 1, f, hf => fun L hL => by
    unfold dblN at hL
    by_cases q : f < n
    · rw [if_pos q] at hL
      rcases List.mem_cons.mp hL with h | h
      · subst h
        refine ⟨fun z => ?_, dblL_up n f, fun p hp => ?_⟩
        · have := congrArg List.length z
          simp [dblL] at this
          omega
        · obtain ⟨i, hi, rfl⟩ := dblL_mem.mp hp
          dsimp only
          omega
      · exact dbl_valid (by omega) L h
    · rw [if_neg q] at hL
      cases hL
theorem dbl_goes {n : Nat} : ∀ {k f : Nat} {v : Tell.St}, 1 ≤ f → n ≤ f * 2 ^ k → (∀ y, y < n → v y = some (y + 1 - f, y)) → ∀ y, y < n → Tell.netS v ((dblN n f k).map Wt.sw) y = some (0, y)
  | 0, f, v, hf, hn, hv => fun y hy => by
    show v y = _
    rw [hv y hy, show y + 1 - f = 0 by simp at hn; omega]
  | k + 1, f, v, hf, hn, hv => fun y hy => by
    unfold dblN
    by_cases q : f < n
    · rw [if_pos q]
      refine dbl_goes (k := k) (f := 2 * f) (v := Tell.layerS v (Wt.sw (dblL n f))) (by omega) (by rw [Nat.pow_succ] at hn; rw [Nat.mul_comm 2 f, Nat.mul_assoc, Nat.mul_comm 2]; exact hn) (fun y hy => ?_) y hy
      by_cases q2 : f ≤ y
      · have e := Wt.lay_in (v := v) (lay_ok (dblL_up n f)) (p := (y - f, y)) (dblL_mem.mpr ⟨y - f, by omega, by rw [show y - f + f = y by omega]⟩)
        rw [e]
        show Tell.join (v (y - f)) (v y) = _
        rw [hv _ (by omega), hv _ hy]
        show (if y - f + 1 = y + 1 - f then some (y - f + 1 - f, y) else none) = _
        rw [if_pos (by omega), show y - f + 1 - f = y + 1 - 2 * f by omega]
      · rw [Wt.lay_out fun p hp => by
          obtain ⟨i, hi, rfl⟩ := dblL_mem.mp hp
          dsimp only
          omega, hv _ hy, show y + 1 - f = y + 1 - 2 * f by omega]
    · rw [if_neg q]
      show v y = _
      rw [hv y hy, show y + 1 - f = 0 by omega]
theorem dbl_good {n k : Nat} (h : n ≤ 2 ^ k) : Good n (dblN n 1 k) := by
  have a := dbl_valid (n := n) (k := k) (f := 1) (by omega)
  exact ⟨⟨fun L hL => (a L hL).1, fun L hL => (a L hL).2.1, fun L hL => (a L hL).2.2⟩, dbl_goes (by omega) (by omega) fun y hy => rfl⟩
theorem dbl_len {n : Nat} : ∀ k f : Nat, (dblN n f k).length ≤ k
  | 0, _ => Nat.le_refl _
  | k + 1, f => by
    unfold dblN
    by_cases q : f < n
    · rw [if_pos q]
      have := dbl_len (n := n) k (2 * f)
      simp only [List.length_cons]
      omega
    · rw [if_neg q]
      exact Nat.zero_le _
def oneN (n : Nat) : NatNet := (List.range (n - 1)).map fun i => [(i, i + 1)]
theorem one_goes : ∀ (k a : Nat) {v : Tell.St}, (∀ y, y ≤ a → v y = some (0, y)) → (∀ y, a < y → v y = some (y, y)) → ∀ y, y ≤ a + k → Tell.netS v (((List.range' a k).map fun i => [(i, i + 1)]).map Wt.sw) y = some (0, y)
  | 0, a, v, h1, _ => fun y hy => h1 y hy
  | k + 1, a, v, h1, h2 => fun y hy => by
    rw [List.range'_succ]
    refine one_goes k (a + 1) (v := Tell.layerS v (Wt.sw [(a, a + 1)])) (fun y hy => ?_) (fun y hy => ?_) y (by omega)
    · by_cases q : y = a + 1
      · subst q
        have e := Wt.lay_in (v := v) (L := [(a, a + 1)]) (by simp) (p := (a, a + 1)) List.mem_cons_self
        rw [e]
        show Tell.join (v a) (v (a + 1)) = _
        rw [h1 a (Nat.le_refl _), h2 (a + 1) (by omega)]
        show (if a + 1 = a + 1 then some (0, a + 1) else none) = _
        rw [if_pos rfl]
      · rw [Wt.lay_out fun p hp => by
          rw [List.mem_singleton.mp hp]
          dsimp only
          omega]
        exact h1 y (by omega)
    · rw [Wt.lay_out fun p hp => by
        rw [List.mem_singleton.mp hp]
        dsimp only
        omega]
      exact h2 y (by omega)
theorem one_good {n : Nat} (h : 1 ≤ n) : Good n (oneN n) := by
  have a : ∀ L ∈ oneN n, L ≠ [] ∧ (L.Pairwise fun a b => a.2 < b.2) ∧ ∀ p ∈ L, p.1 < p.2 ∧ p.2 < n := fun L hL => by
    obtain ⟨i, hi, rfl⟩ := List.mem_map.mp hL
    have := List.mem_range.mp hi
    refine ⟨fun z => (nomatch z), by simp, fun p hp => ?_⟩
    rw [List.mem_singleton.mp hp]
    dsimp only
    omega
  refine ⟨⟨fun L hL => (a L hL).1, fun L hL => (a L hL).2.1, fun L hL => (a L hL).2.2⟩, fun y hy => ?_⟩
  unfold oneN
  rw [List.range_eq_range']
  exact one_goes (n - 1) 0 (v := Tell.v0) (fun y hy => by rw [show y = 0 by omega]; rfl) (fun y _ => rfl) y (by omega)
/-! #### by halves, by pairs -/
def halN : Nat → Nat → NatNet
  | 0, _ => []
  | k + 1, n => if n = 1 then [] else behN (n - n / 2) (n / 2) (halN k (n - n / 2)) (halN k (n / 2))
theorem hal_good : ∀ {k n : Nat}, 1 ≤ n → n ≤ 2 ^ k → Good n (halN k n)
  | 0, n, h1, h2 => by
    have e : n = 1 := by simp at h2; omega
    subst e
    exact good_one
  | k + 1, n, h1, h2 => by
    unfold halN
    by_cases q : n = 1
    · rw [if_pos q]
      subst q
      exact good_one
    · rw [if_neg q]
      rw [Nat.pow_succ] at h2
      have e := beh_good (n := n - n / 2) (m := n / 2) (by omega) (by omega) (hal_good (k := k) (by omega) (by omega)) (hal_good (k := k) (by omega) (by omega))
      rwa [show n - n / 2 + n / 2 = n by omega] at e
theorem hal_len : ∀ k n : Nat, (halN k n).length ≤ k
  | 0, _ => Nat.le_refl _
  | k + 1, n => by
    unfold halN
    by_cases q : n = 1
    · rw [if_pos q]
      exact Nat.zero_le _
    · rw [if_neg q]
      unfold behN
      have a := hal_len k (n - n / 2)
      have b := hal_len k (n / 2)
      rw [List.length_append, sideN_len, List.length_map]
      simp only [List.length_singleton]
      omega
def paiN : Nat → Nat → NatNet
  | 0, _ => []
  | k + 1, n => if n = 1 then [] else aroN n (paiN k (n / 2))
theorem pai_good : ∀ {k n : Nat}, 1 ≤ n → n ≤ 2 ^ k → Good n (paiN k n)
  | 0, n, h1, h2 => by
    have e : n = 1 := by simp at h2; omega
    subst e
    exact good_one
  | k + 1, n, h1, h2 => by
    unfold paiN
    by_cases q : n = 1
    · rw [if_pos q]
      subst q
      exact good_one
    · rw [if_neg q]
      rw [Nat.pow_succ] at h2
      exact aro_good (by omega) (pai_good (k := k) (by omega) (by omega))
theorem pai_len : ∀ k n : Nat, (paiN k n).length ≤ 2 * k
  | 0, _ => Nat.le_refl _
  | k + 1, n => by
    unfold paiN
    by_cases q : n = 1
    · rw [if_pos q]
      exact Nat.zero_le _
    · rw [if_neg q]
      unfold aroN
      have a := pai_len k (n / 2)
      rw [List.length_append, List.length_append, List.length_map]
      have : (if lastP n = [] then [] else [lastP n] : NatNet).length ≤ 1 := by
        by_cases e : lastP n = []
        · rw [if_pos e]
          exact Nat.zero_le _
        · rw [if_neg e]
          exact Nat.le_refl _
      simp only [List.length_singleton]
      omega
end LK
namespace LK
open L2 G PySem PySem.Spec PyProof.Rows
/-! ### the made nets, as the program lays them -/
theorem ml_t {n : Nat} (h : 1 ≤ n) (h2 : n ≤ 64) : f_need_lines [.int (n : Nat)] = .ok .non := by
  rw [F_need_lines]
  unfold c_need_lines
  simp -implicitDefEqProofs only [↓G.e_seq, ↓G.e_skip, ↓G.e_asg, ↓G.e_drop, ↓G.e_ret, ↓G.e_raise, ↓G.e_raiseN, ↓G.e_if, ↓G.e_val, ↓G.e_not, ↓G.e_or, ↓G.e_and, ↓G.e_xand, ↓G.e_xor, ↓G.e_xnot, ↓G.e_var, ↓G.e_c, ↓G.e_bin, ↓G.e_un, ↓G.e_chain, ↓G.e_nil, ↓G.e_cons, ↓G.e_tup, ↓G.e_lst, ↓G.e_call, ↓G.e_callM, ↓G.e_callP, ↓G.e_callO, ↓G.e_for, ↓G.e_itSeq, ↓G.e_itTup, ↓G.e_itR1, ↓G.e_itR2, G.kk_ok, G.kk_ex, G.kF_nx, G.kF_rt, G.kF_ex, G.kI_t, G.kI_f, G.kT_nm, G.kT_tp2, G.kT_ex, G.kB_bl, G.kV_some, G.kO_some, G.kFor_ok, G.nX_n, G.nX_i, G.vB_bl, G.vT_t, G.kP_rt, G.kP_nx, G.kP_ex, G.kQ_some, G.kM_rt, G.kM_nx, G.kM_ex, G.kPO_ex, G.res_bl, G.res_int, G.res_str, G.res_non, G.thr_e, G.ret_e, G.up_ok, G.up_ex, G.upO_ok, G.upO_ex, G.mkL_t, G.mkL_n, G.o_sub, G.o_lt, G.o_le, G.o_gt, G.o_ge, G.o_add, G.o_neg, G.o_isN, G.o_isNI, G.o_isNT, G.o_isNL, G.o_isNR, G.o_isNB, G.o_isNS, G.o_is, G.o_ixT, G.o_ixL, G.o_ixS, G.at_0, G.at_1, G.o_lenL, G.o_lenT, G.o_lenC, G.o_lenS, G.o_max2, G.o_min2, G.o_intB, G.o_intI, G.o_listL, G.o_listT, G.o_listC, G.o_tupL, G.o_eqIt, G.o_eqIf, G.seq_lst, G.seq_scr, G.seq_ref, G.noRL_nil, G.noRL_cons, G.noR_non, G.noR_bl, G.noR_int, G.noR_str, G.noR_dic, G.noR_scr, G.noR_tup, G.noR_lst, G.isd_int, G.isd_intb, G.isd_bool, G.isd_boolb, G.isd_tup, G.isd_lst, G.isd_ref, G.live_lst, G.tgS_nm, G.tgS_tp2, List.getElem?_cons_zero, List.getElem?_cons_succ, List.set_cons_zero, List.set_cons_succ, List.length_cons, List.length_nil, List.nil_append, List.cons_append, Bool.and_true, Bool.true_and, Bool.and_self, Bool.not_true, Bool.not_false, decide_true, decide_false, Nat.reduceAdd, Int.reduceAdd, Int.reduceSub, Int.reduceMul, Int.reduceNeg, Int.cast_ofNat_Int, Int.natCast_zero, Int.natCast_one, eq_self, Int.reduceEq, Int.reduceLT, Int.reduceLE, among_t (i := (n : Nat)) (a := 1) (b := 64) (by omega) (by omega)]
theorem layN_len {L : List (Nat × Nat)} : (layD (L.map zz)).length = L.length := by simp [layD]
theorem lay_64' {n : Nat} {N : NatNet} (V : Valid n N) (h : n ≤ 64) : ∀ L ∈ N, L.length ≤ 64 := fun L hL => by
  have : ∀ (L : List (Nat × Nat)) (a : Nat), (L.Pairwise fun a b => a.2 < b.2) → (∀ p ∈ L, a ≤ p.2 ∧ p.2 < n) → L.length ≤ n - a := fun L => by
    induction L with
    | nil => exact fun _ _ _ => Nat.zero_le _
    | cons p L ih =>
      intro a hp hr
      rw [List.pairwise_cons] at hp
      have h1 := hr p List.mem_cons_self
      have := ih (p.2 + 1) hp.2 fun q hq => ⟨hp.1 q hq, (hr q (List.mem_cons_of_mem _ hq)).2⟩
      simp only [List.length_cons]
      omega
  have := this L 0 (V.up L hL) fun p hp => ⟨Nat.zero_le _, (V.rg L hL p hp).2⟩
  omega
/-- a layer from joints, made one by one -/
theorem lc_lay {it : En → M It0} {te : En → M D} {env : En} {cs : Cs} {own : List Nat} {t : Tg} {α : Type} {xs : List α} {i : α → D} {live : Cs → Bool} (f : α → Nat × Nat) (hi : it env cs = .ok ⟨xs.map i, live⟩ cs) (hl : live cs = true) (hz : xs.length ≤ 1000)
    (h : ∀ x ∈ xs, ∃ env1, tgS t (i x) (wip env own) = some env1 ∧ te env1 cs = .ok (.tup [.int ((f x).1 : Nat), .int ((f x).2 : Nat)]) cs) :
    xLcN false it own t bYes te env cs = .ok (layN (xs.map f)) cs := by
  have key : ∀ (ys : List α), (∀ x ∈ ys, ∃ env1, tgS t (i x) (wip env own) = some env1 ∧ te env1 cs = .ok (.tup [.int ((f x).1 : Nat), .int ((f x).2 : Nat)]) cs) → lcGo live t bYes te (wip env own) (ys.map i) cs = .ok (ys.map fun x => D.tup [.int ((f x).1 : Nat), .int ((f x).2 : Nat)]) cs := fun ys => by
    induction ys with
    | nil =>
      intro _
      show guardM live _ cs = _
      unfold guardM
      rw [if_pos hl]
      rfl
    | cons y ys ih =>
      intro hy
      obtain ⟨env1, h1, h2⟩ := hy y List.mem_cons_self
      show guardM live (match tgS t (i y) (wip env own) with
        | some env1 => M.bnd (bYes env1) fun b => if b = true then M.bnd (te env1) fun d => M.bnd (lcGo live t bYes te (wip env own) (ys.map i)) fun r => M.ret (d :: r) else lcGo live t bYes te (wip env own) (ys.map i)
        | none => M.no) cs = _
      unfold guardM
      rw [if_pos hl, h1]
      show M.bnd (te env1) _ cs = _
      rw [M.bnd_ok h2, M.bnd_ok (ih fun y hy' => hy y (List.mem_cons_of_mem _ hy'))]
      rfl
  show M.bnd (it env) _ cs = _
  rw [M.bnd_ok hi]
  show (if szOk (xs.map i).length = true then M.bnd (noX (lcGo live t bYes te (wip env own) (xs.map i))) _ else M.no) cs = _
  rw [if_pos (show szOk (xs.map i).length = true from decide_eq_true (by rw [List.length_map]; omega))]
  have e : noX (lcGo live t bYes te (wip env own) (xs.map i)) cs = .ok (xs.map fun x => D.tup [.int ((f x).1 : Nat), .int ((f x).2 : Nat)]) cs := by
    unfold noX
    rw [key xs h]
  rw [M.bnd_ok e]
  unfold layN layD
  rw [List.map_map, List.map_map]
  rfl
theorem lc_any {it : En → M It0} {te : En → M D} {env : En} {cs : Cs} {own : List Nat} {t : Tg} {α : Type} {xs : List α} {i o : α → D} {live : Cs → Bool} (hi : it env cs = .ok ⟨xs.map i, live⟩ cs) (hl : live cs = true) (hz : xs.length ≤ 1000)
    (h : ∀ x ∈ xs, ∃ env1, tgS t (i x) (wip env own) = some env1 ∧ te env1 cs = .ok (o x) cs) :
    xLcN false it own t bYes te env cs = .ok (.lst (xs.map o)) cs := by
  have key : ∀ (ys : List α), (∀ x ∈ ys, ∃ env1, tgS t (i x) (wip env own) = some env1 ∧ te env1 cs = .ok (o x) cs) → lcGo live t bYes te (wip env own) (ys.map i) cs = .ok (ys.map o) cs := fun ys => by
    induction ys with
    | nil =>
      intro _
      show guardM live _ cs = _
      unfold guardM
      rw [if_pos hl]
      rfl
    | cons y ys ih =>
      intro hy
      obtain ⟨env1, h1, h2⟩ := hy y List.mem_cons_self
      show guardM live (match tgS t (i y) (wip env own) with
        | some env1 => M.bnd (bYes env1) fun b => if b = true then M.bnd (te env1) fun d => M.bnd (lcGo live t bYes te (wip env own) (ys.map i)) fun r => M.ret (d :: r) else lcGo live t bYes te (wip env own) (ys.map i)
        | none => M.no) cs = _
      unfold guardM
      rw [if_pos hl, h1]
      show M.bnd (te env1) _ cs = _
      rw [M.bnd_ok h2, M.bnd_ok (ih fun y hy' => hy y (List.mem_cons_of_mem _ hy'))]
      rfl
  show M.bnd (it env) _ cs = _
  rw [M.bnd_ok hi]
  show (if szOk (xs.map i).length = true then M.bnd (noX (lcGo live t bYes te (wip env own) (xs.map i))) _ else M.no) cs = _
  rw [if_pos (show szOk (xs.map i).length = true from decide_eq_true (by rw [List.length_map]; omega))]
  have e : noX (lcGo live t bYes te (wip env own) (xs.map i)) cs = .ok (xs.map o) cs := by
    unfold noX
    rw [key xs h]
  rw [M.bnd_ok e]
  rfl
theorem res_cellN {cs : Cs} {i : Nat} {N : NatNet} (h : cs[i]? = some (N.map layN)) : res cs (.ref i) = some (netD (natN N)) := by
  show (match cs[i]? with
    | some xs => (rsGL (rsN cs 2) xs).map D.lst
    | none => none) = _
  have e : ∀ r : Nat → Option D, ∀ N : NatNet, rsGL r (N.map layN) = some (N.map layN) := fun r N => by
    induction N with
    | nil => rfl
    | cons L N ih =>
      show (match rsG r (layN L), rsGL r (N.map layN) with
        | some a, some b => some (a :: b)
        | _, _ => none) = _
      have : rsG r (layN L) = some (layN L) := by
        show (rsGL r (layD (L.map zz))).map D.lst = _
        rw [rs_lay]
        rfl
      rw [this, ih]
      rfl
  rw [h, netD_N]
  dsimp only
  rw [e]
  rfl
theorem one_ok {n : Nat} (h1 : 1 ≤ n) (h2 : n ≤ 64) : f_one_by_one [.int (n : Nat)] = .ok (netD (natN (oneN n))) := by
  rw [F_one_by_one]
  unfold c_one_by_one
  have m : m_one_by_one_0 [some (.int (n : Nat)), none] [] = .ok (netD (natN (oneN n))) [] := by
    unfold m_one_by_one_0
    obtain ⟨k, hk⟩ : ∃ k : Nat, (n : Int) - 1 = (k : Int) := ⟨n - 1, by omega⟩
    have ek : k = n - 1 := by omega
    rw [lc_any (xs := List.range k) (i := fun i => .int (i : Nat)) (o := fun i => layN [(i, i + 1)]) (live := fun _ => true) (by simp -implicitDefEqProofs only [↓G.e_seq, ↓G.e_skip, ↓G.e_asg, ↓G.e_drop, ↓G.e_ret, ↓G.e_raise, ↓G.e_raiseN, ↓G.e_if, ↓G.e_val, ↓G.e_not, ↓G.e_or, ↓G.e_and, ↓G.e_xand, ↓G.e_xor, ↓G.e_xnot, ↓G.e_var, ↓G.e_c, ↓G.e_bin, ↓G.e_un, ↓G.e_chain, ↓G.e_nil, ↓G.e_cons, ↓G.e_tup, ↓G.e_lst, ↓G.e_call, ↓G.e_callM, ↓G.e_callP, ↓G.e_callO, ↓G.e_for, ↓G.e_itSeq, ↓G.e_itTup, ↓G.e_itR1, ↓G.e_itR2, G.kk_ok, G.kk_ex, G.kF_nx, G.kF_rt, G.kF_ex, G.kI_t, G.kI_f, G.kT_nm, G.kT_tp2, G.kT_ex, G.kB_bl, G.kV_some, G.kO_some, G.kFor_ok, G.nX_n, G.nX_i, G.vB_bl, G.vT_t, G.kP_rt, G.kP_nx, G.kP_ex, G.kQ_some, G.kM_rt, G.kM_nx, G.kM_ex, G.kPO_ex, G.res_bl, G.res_int, G.res_str, G.res_non, G.thr_e, G.ret_e, G.up_ok, G.up_ex, G.upO_ok, G.upO_ex, G.mkL_t, G.mkL_n, G.o_sub, G.o_lt, G.o_le, G.o_gt, G.o_ge, G.o_add, G.o_neg, G.o_isN, G.o_isNI, G.o_isNT, G.o_isNL, G.o_isNR, G.o_isNB, G.o_isNS, G.o_is, G.o_ixT, G.o_ixL, G.o_ixS, G.at_0, G.at_1, G.o_lenL, G.o_lenT, G.o_lenC, G.o_lenS, G.o_max2, G.o_min2, G.o_intB, G.o_intI, G.o_listL, G.o_listT, G.o_listC, G.o_tupL, G.o_eqIt, G.o_eqIf, G.seq_lst, G.seq_scr, G.seq_ref, G.noRL_nil, G.noRL_cons, G.noR_non, G.noR_bl, G.noR_int, G.noR_str, G.noR_dic, G.noR_scr, G.noR_tup, G.noR_lst, G.isd_int, G.isd_intb, G.isd_bool, G.isd_boolb, G.isd_tup, G.isd_lst, G.isd_ref, G.live_lst, G.tgS_nm, G.tgS_tp2, List.getElem?_cons_zero, List.getElem?_cons_succ, List.set_cons_zero, List.set_cons_succ, List.length_cons, List.length_nil, List.nil_append, List.cons_append, Bool.and_true, Bool.true_and, Bool.and_self, Bool.not_true, Bool.not_false, decide_true, decide_false, Nat.reduceAdd, Int.reduceAdd, Int.reduceSub, Int.reduceMul, Int.reduceNeg, Int.cast_ofNat_Int, Int.natCast_zero, Int.natCast_one, eq_self, Int.reduceEq, Int.reduceLT, Int.reduceLE, hk, o_R1 (n := k) (by omega)]) rfl (by simp; omega) fun x hx => ⟨_, rfl, by
      unfold e_one_by_one_0
      simp -implicitDefEqProofs only [↓G.e_seq, ↓G.e_skip, ↓G.e_asg, ↓G.e_drop, ↓G.e_ret, ↓G.e_raise, ↓G.e_raiseN, ↓G.e_if, ↓G.e_val, ↓G.e_not, ↓G.e_or, ↓G.e_and, ↓G.e_xand, ↓G.e_xor, ↓G.e_xnot, ↓G.e_var, ↓G.e_c, ↓G.e_bin, ↓G.e_un, ↓G.e_chain, ↓G.e_nil, ↓G.e_cons, ↓G.e_tup, ↓G.e_lst, ↓G.e_call, ↓G.e_callM, ↓G.e_callP, ↓G.e_callO, ↓G.e_for, ↓G.e_itSeq, ↓G.e_itTup, ↓G.e_itR1, ↓G.e_itR2, G.kk_ok, G.kk_ex, G.kF_nx, G.kF_rt, G.kF_ex, G.kI_t, G.kI_f, G.kT_nm, G.kT_tp2, G.kT_ex, G.kB_bl, G.kV_some, G.kO_some, G.kFor_ok, G.nX_n, G.nX_i, G.vB_bl, G.vT_t, G.kP_rt, G.kP_nx, G.kP_ex, G.kQ_some, G.kM_rt, G.kM_nx, G.kM_ex, G.kPO_ex, G.res_bl, G.res_int, G.res_str, G.res_non, G.thr_e, G.ret_e, G.up_ok, G.up_ex, G.upO_ok, G.upO_ex, G.mkL_t, G.mkL_n, G.o_sub, G.o_lt, G.o_le, G.o_gt, G.o_ge, G.o_add, G.o_neg, G.o_isN, G.o_isNI, G.o_isNT, G.o_isNL, G.o_isNR, G.o_isNB, G.o_isNS, G.o_is, G.o_ixT, G.o_ixL, G.o_ixS, G.at_0, G.at_1, G.o_lenL, G.o_lenT, G.o_lenC, G.o_lenS, G.o_max2, G.o_min2, G.o_intB, G.o_intI, G.o_listL, G.o_listT, G.o_listC, G.o_tupL, G.o_eqIt, G.o_eqIf, G.seq_lst, G.seq_scr, G.seq_ref, G.noRL_nil, G.noRL_cons, G.noR_non, G.noR_bl, G.noR_int, G.noR_str, G.noR_dic, G.noR_scr, G.noR_tup, G.noR_lst, G.isd_int, G.isd_intb, G.isd_bool, G.isd_boolb, G.isd_tup, G.isd_lst, G.isd_ref, G.live_lst, G.tgS_nm, G.tgS_tp2, List.getElem?_cons_zero, List.getElem?_cons_succ, List.set_cons_zero, List.set_cons_succ, List.length_cons, List.length_nil, List.nil_append, List.cons_append, Bool.and_true, Bool.true_and, Bool.and_self, Bool.not_true, Bool.not_false, decide_true, decide_false, Nat.reduceAdd, Int.reduceAdd, Int.reduceSub, Int.reduceMul, Int.reduceNeg, Int.cast_ofNat_Int, Int.natCast_zero, Int.natCast_one, eq_self, Int.reduceEq, Int.reduceLT, Int.reduceLE, G.wip_nil, G.wip_cons, Nat.reduceLeDiff, ↓G.e_sl, ↓G.e_pNo, ↓G.e_pSome, G.vI_i, ↓G.e_fgo_cons, ↓G.e_fgo_nil, G.kL_nx, G.kL_rt, G.kL_ex, G.kS_some, szOk_small, Nat.reduceLeDiff]
      rfl⟩, ek, netD_N]
    unfold oneN
    rw [List.map_map]
    exact congrArg (fun x => Rs.ok (D.lst x) []) (List.map_congr_left fun i _ => rfl)
  simp -implicitDefEqProofs only [↓G.e_seq, ↓G.e_skip, ↓G.e_asg, ↓G.e_drop, ↓G.e_ret, ↓G.e_raise, ↓G.e_raiseN, ↓G.e_if, ↓G.e_val, ↓G.e_not, ↓G.e_or, ↓G.e_and, ↓G.e_xand, ↓G.e_xor, ↓G.e_xnot, ↓G.e_var, ↓G.e_c, ↓G.e_bin, ↓G.e_un, ↓G.e_chain, ↓G.e_nil, ↓G.e_cons, ↓G.e_tup, ↓G.e_lst, ↓G.e_call, ↓G.e_callM, ↓G.e_callP, ↓G.e_callO, ↓G.e_for, ↓G.e_itSeq, ↓G.e_itTup, ↓G.e_itR1, ↓G.e_itR2, G.kk_ok, G.kk_ex, G.kF_nx, G.kF_rt, G.kF_ex, G.kI_t, G.kI_f, G.kT_nm, G.kT_tp2, G.kT_ex, G.kB_bl, G.kV_some, G.kO_some, G.kFor_ok, G.nX_n, G.nX_i, G.vB_bl, G.vT_t, G.kP_rt, G.kP_nx, G.kP_ex, G.kQ_some, G.kM_rt, G.kM_nx, G.kM_ex, G.kPO_ex, G.res_bl, G.res_int, G.res_str, G.res_non, G.thr_e, G.ret_e, G.up_ok, G.up_ex, G.upO_ok, G.upO_ex, G.mkL_t, G.mkL_n, G.o_sub, G.o_lt, G.o_le, G.o_gt, G.o_ge, G.o_add, G.o_neg, G.o_isN, G.o_isNI, G.o_isNT, G.o_isNL, G.o_isNR, G.o_isNB, G.o_isNS, G.o_is, G.o_ixT, G.o_ixL, G.o_ixS, G.at_0, G.at_1, G.o_lenL, G.o_lenT, G.o_lenC, G.o_lenS, G.o_max2, G.o_min2, G.o_intB, G.o_intI, G.o_listL, G.o_listT, G.o_listC, G.o_tupL, G.o_eqIt, G.o_eqIf, G.seq_lst, G.seq_scr, G.seq_ref, G.noRL_nil, G.noRL_cons, G.noR_non, G.noR_bl, G.noR_int, G.noR_str, G.noR_dic, G.noR_scr, G.noR_tup, G.noR_lst, G.isd_int, G.isd_intb, G.isd_bool, G.isd_boolb, G.isd_tup, G.isd_lst, G.isd_ref, G.live_lst, G.tgS_nm, G.tgS_tp2, List.getElem?_cons_zero, List.getElem?_cons_succ, List.set_cons_zero, List.set_cons_succ, List.length_cons, List.length_nil, List.nil_append, List.cons_append, Bool.and_true, Bool.true_and, Bool.and_self, Bool.not_true, Bool.not_false, decide_true, decide_false, Nat.reduceAdd, Int.reduceAdd, Int.reduceSub, Int.reduceMul, Int.reduceNeg, Int.cast_ofNat_Int, Int.natCast_zero, Int.natCast_one, eq_self, Int.reduceEq, Int.reduceLT, Int.reduceLE, ml_t h1 h2, m, res_n [] (noR_net (natN (oneN n)))]
theorem dbl_lc {n f : Nat} {s1 s3 : Option D} {cs : Cs} (h2 : n ≤ 64) (hf : f < n) : m_doubled_0 [some (.int (n : Nat)), s1, some (.int (f : Nat)), s3] cs = .ok (layN (dblL n f)) cs := by
  have r2 : opR2 (.int (f : Nat)) (.int (n : Nat)) cs = .ok ⟨(List.range (n - f)).map fun i => .int ((i + f : Nat) : Int), fun _ => true⟩ cs := by
    have a : (small62 (f : Nat) && small62 (n : Nat)) = true := by
      unfold small62
      simp only [Bool.and_eq_true, decide_eq_true_eq]
      omega
    have e1 : ((n : Nat) - (f : Nat) : Int).toNat = n - f := by omega
    have e2 : rngD (f : Nat) (n - f) = (List.range (n - f)).map fun i => D.int ((i + f : Nat) : Int) := by
      unfold rngD
      exact List.map_congr_left fun i _ => congrArg D.int (by omega)
    simp only [opR2, a, if_true, e1, e2]
    rfl
  unfold m_doubled_0
  rw [lc_lay (xs := List.range (n - f)) (i := fun i => .int ((i + f : Nat) : Int)) (live := fun _ => true) (fun i => (i, i + f)) (by simp -implicitDefEqProofs only [↓G.e_seq, ↓G.e_skip, ↓G.e_asg, ↓G.e_drop, ↓G.e_ret, ↓G.e_raise, ↓G.e_raiseN, ↓G.e_if, ↓G.e_val, ↓G.e_not, ↓G.e_or, ↓G.e_and, ↓G.e_xand, ↓G.e_xor, ↓G.e_xnot, ↓G.e_var, ↓G.e_c, ↓G.e_bin, ↓G.e_un, ↓G.e_chain, ↓G.e_nil, ↓G.e_cons, ↓G.e_tup, ↓G.e_lst, ↓G.e_call, ↓G.e_callM, ↓G.e_callP, ↓G.e_callO, ↓G.e_for, ↓G.e_itSeq, ↓G.e_itTup, ↓G.e_itR1, ↓G.e_itR2, G.kk_ok, G.kk_ex, G.kF_nx, G.kF_rt, G.kF_ex, G.kI_t, G.kI_f, G.kT_nm, G.kT_tp2, G.kT_ex, G.kB_bl, G.kV_some, G.kO_some, G.kFor_ok, G.nX_n, G.nX_i, G.vB_bl, G.vT_t, G.kP_rt, G.kP_nx, G.kP_ex, G.kQ_some, G.kM_rt, G.kM_nx, G.kM_ex, G.kPO_ex, G.res_bl, G.res_int, G.res_str, G.res_non, G.thr_e, G.ret_e, G.up_ok, G.up_ex, G.upO_ok, G.upO_ex, G.mkL_t, G.mkL_n, G.o_sub, G.o_lt, G.o_le, G.o_gt, G.o_ge, G.o_add, G.o_neg, G.o_isN, G.o_isNI, G.o_isNT, G.o_isNL, G.o_isNR, G.o_isNB, G.o_isNS, G.o_is, G.o_ixT, G.o_ixL, G.o_ixS, G.at_0, G.at_1, G.o_lenL, G.o_lenT, G.o_lenC, G.o_lenS, G.o_max2, G.o_min2, G.o_intB, G.o_intI, G.o_listL, G.o_listT, G.o_listC, G.o_tupL, G.o_eqIt, G.o_eqIf, G.seq_lst, G.seq_scr, G.seq_ref, G.noRL_nil, G.noRL_cons, G.noR_non, G.noR_bl, G.noR_int, G.noR_str, G.noR_dic, G.noR_scr, G.noR_tup, G.noR_lst, G.isd_int, G.isd_intb, G.isd_bool, G.isd_boolb, G.isd_tup, G.isd_lst, G.isd_ref, G.live_lst, G.tgS_nm, G.tgS_tp2, List.getElem?_cons_zero, List.getElem?_cons_succ, List.set_cons_zero, List.set_cons_succ, List.length_cons, List.length_nil, List.nil_append, List.cons_append, Bool.and_true, Bool.true_and, Bool.and_self, Bool.not_true, Bool.not_false, decide_true, decide_false, Nat.reduceAdd, Int.reduceAdd, Int.reduceSub, Int.reduceMul, Int.reduceNeg, Int.cast_ofNat_Int, Int.natCast_zero, Int.natCast_one, eq_self, Int.reduceEq, Int.reduceLT, Int.reduceLE, e_itR2, r2]) rfl (by simp; omega) fun x hx => ⟨_, rfl, by
    have z : ((x + f : Nat) : Int) - (f : Nat) = (x : Int) := by omega
    unfold e_doubled_0
    simp -implicitDefEqProofs only [↓G.e_seq, ↓G.e_skip, ↓G.e_asg, ↓G.e_drop, ↓G.e_ret, ↓G.e_raise, ↓G.e_raiseN, ↓G.e_if, ↓G.e_val, ↓G.e_not, ↓G.e_or, ↓G.e_and, ↓G.e_xand, ↓G.e_xor, ↓G.e_xnot, ↓G.e_var, ↓G.e_c, ↓G.e_bin, ↓G.e_un, ↓G.e_chain, ↓G.e_nil, ↓G.e_cons, ↓G.e_tup, ↓G.e_lst, ↓G.e_call, ↓G.e_callM, ↓G.e_callP, ↓G.e_callO, ↓G.e_for, ↓G.e_itSeq, ↓G.e_itTup, ↓G.e_itR1, ↓G.e_itR2, G.kk_ok, G.kk_ex, G.kF_nx, G.kF_rt, G.kF_ex, G.kI_t, G.kI_f, G.kT_nm, G.kT_tp2, G.kT_ex, G.kB_bl, G.kV_some, G.kO_some, G.kFor_ok, G.nX_n, G.nX_i, G.vB_bl, G.vT_t, G.kP_rt, G.kP_nx, G.kP_ex, G.kQ_some, G.kM_rt, G.kM_nx, G.kM_ex, G.kPO_ex, G.res_bl, G.res_int, G.res_str, G.res_non, G.thr_e, G.ret_e, G.up_ok, G.up_ex, G.upO_ok, G.upO_ex, G.mkL_t, G.mkL_n, G.o_sub, G.o_lt, G.o_le, G.o_gt, G.o_ge, G.o_add, G.o_neg, G.o_isN, G.o_isNI, G.o_isNT, G.o_isNL, G.o_isNR, G.o_isNB, G.o_isNS, G.o_is, G.o_ixT, G.o_ixL, G.o_ixS, G.at_0, G.at_1, G.o_lenL, G.o_lenT, G.o_lenC, G.o_lenS, G.o_max2, G.o_min2, G.o_intB, G.o_intI, G.o_listL, G.o_listT, G.o_listC, G.o_tupL, G.o_eqIt, G.o_eqIf, G.seq_lst, G.seq_scr, G.seq_ref, G.noRL_nil, G.noRL_cons, G.noR_non, G.noR_bl, G.noR_int, G.noR_str, G.noR_dic, G.noR_scr, G.noR_tup, G.noR_lst, G.isd_int, G.isd_intb, G.isd_bool, G.isd_boolb, G.isd_tup, G.isd_lst, G.isd_ref, G.live_lst, G.tgS_nm, G.tgS_tp2, List.getElem?_cons_zero, List.getElem?_cons_succ, List.set_cons_zero, List.set_cons_succ, List.length_cons, List.length_nil, List.nil_append, List.cons_append, Bool.and_true, Bool.true_and, Bool.and_self, Bool.not_true, Bool.not_false, decide_true, decide_false, Nat.reduceAdd, Int.reduceAdd, Int.reduceSub, Int.reduceMul, Int.reduceNeg, Int.cast_ofNat_Int, Int.natCast_zero, Int.natCast_one, eq_self, Int.reduceEq, Int.reduceLT, Int.reduceLE, G.wip_nil, G.wip_cons, Nat.reduceLeDiff, ↓G.e_sl, ↓G.e_pNo, ↓G.e_pSome, G.vI_i, ↓G.e_fgo_cons, ↓G.e_fgo_nil, G.kL_nx, G.kL_rt, G.kL_ex, G.kS_some, szOk_small, Nat.reduceLeDiff, z]⟩]
  rfl
theorem dbl_while {n : Nat} (h2 : n ≤ 64) : ∀ (k : Nat) (f : Nat) (A : NatNet) {s3 : Option D} {s1 : Option D}, 1 ≤ f → f ≤ 1000 → A.length + k ≤ 100 → n ≤ f * 2 ^ k → s1 = some (.ref 0) →
    ∃ e3 e2 : Option D, sWhile t_doubled_0 b_doubled_0 (k + 1) [some (.int (n : Nat)), some (.ref 0), some (.int (f : Nat)), s3] [A.map layN] = .ok (.nx [some (.int (n : Nat)), some (.ref 0), e2, e3]) [(A ++ dblN n f k).map layN]
  | 0, f, A, s3, s1, h1, hf, hA, hn, _ => by
    have z : ((f : Int) < (n : Int)) ↔ False := by simp only [iff_false]; simp at hn; omega
    refine ⟨s3, some (.int (f : Nat)), ?_⟩
    rw [while_f (n := 0) (cs1 := [A.map layN]) (by unfold t_doubled_0; simp -implicitDefEqProofs only [↓G.e_seq, ↓G.e_skip, ↓G.e_asg, ↓G.e_drop, ↓G.e_ret, ↓G.e_raise, ↓G.e_raiseN, ↓G.e_if, ↓G.e_val, ↓G.e_not, ↓G.e_or, ↓G.e_and, ↓G.e_xand, ↓G.e_xor, ↓G.e_xnot, ↓G.e_var, ↓G.e_c, ↓G.e_bin, ↓G.e_un, ↓G.e_chain, ↓G.e_nil, ↓G.e_cons, ↓G.e_tup, ↓G.e_lst, ↓G.e_call, ↓G.e_callM, ↓G.e_callP, ↓G.e_callO, ↓G.e_for, ↓G.e_itSeq, ↓G.e_itTup, ↓G.e_itR1, ↓G.e_itR2, G.kk_ok, G.kk_ex, G.kF_nx, G.kF_rt, G.kF_ex, G.kI_t, G.kI_f, G.kT_nm, G.kT_tp2, G.kT_ex, G.kB_bl, G.kV_some, G.kO_some, G.kFor_ok, G.nX_n, G.nX_i, G.vB_bl, G.vT_t, G.kP_rt, G.kP_nx, G.kP_ex, G.kQ_some, G.kM_rt, G.kM_nx, G.kM_ex, G.kPO_ex, G.res_bl, G.res_int, G.res_str, G.res_non, G.thr_e, G.ret_e, G.up_ok, G.up_ex, G.upO_ok, G.upO_ex, G.mkL_t, G.mkL_n, G.o_sub, G.o_lt, G.o_le, G.o_gt, G.o_ge, G.o_add, G.o_neg, G.o_isN, G.o_isNI, G.o_isNT, G.o_isNL, G.o_isNR, G.o_isNB, G.o_isNS, G.o_is, G.o_ixT, G.o_ixL, G.o_ixS, G.at_0, G.at_1, G.o_lenL, G.o_lenT, G.o_lenC, G.o_lenS, G.o_max2, G.o_min2, G.o_intB, G.o_intI, G.o_listL, G.o_listT, G.o_listC, G.o_tupL, G.o_eqIt, G.o_eqIf, G.seq_lst, G.seq_scr, G.seq_ref, G.noRL_nil, G.noRL_cons, G.noR_non, G.noR_bl, G.noR_int, G.noR_str, G.noR_dic, G.noR_scr, G.noR_tup, G.noR_lst, G.isd_int, G.isd_intb, G.isd_bool, G.isd_boolb, G.isd_tup, G.isd_lst, G.isd_ref, G.live_lst, G.tgS_nm, G.tgS_tp2, List.getElem?_cons_zero, List.getElem?_cons_succ, List.set_cons_zero, List.set_cons_succ, List.length_cons, List.length_nil, List.nil_append, List.cons_append, Bool.and_true, Bool.true_and, Bool.and_self, Bool.not_true, Bool.not_false, decide_true, decide_false, Nat.reduceAdd, Int.reduceAdd, Int.reduceSub, Int.reduceMul, Int.reduceNeg, Int.cast_ofNat_Int, Int.natCast_zero, Int.natCast_one, eq_self, Int.reduceEq, Int.reduceLT, Int.reduceLE, z])]
    show _ = Rs.ok _ [(A ++ []).map layN]
    rw [List.append_nil]
  | k + 1, f, A, s3, s1, h1, hf, hA, hn, hs => by
    by_cases q : f < n
    · have z : ((f : Int) < (n : Int)) ↔ True := by simp only [iff_true]; omega
      have ap := cApp_ok (cs := [A.map layN]) (i := 0) (layN (dblL n f)) rfl (by rw [List.length_map]; omega)
      have st : b_doubled_0 [some (.int (n : Nat)), some (.ref 0), some (.int (f : Nat)), s3] [A.map layN] = .ok (.nx [some (.int (n : Nat)), some (.ref 0), some (.int ((2 * f : Nat) : Int)), s3]) [(A ++ [dblL n f]).map layN] := by
        have c1 : ((2 * f : Nat) : Int) = 2 * (f : Int) := by omega
        rw [List.map_append, c1]
        unfold b_doubled_0
        simp -implicitDefEqProofs only [↓G.e_seq, ↓G.e_skip, ↓G.e_asg, ↓G.e_drop, ↓G.e_ret, ↓G.e_raise, ↓G.e_raiseN, ↓G.e_if, ↓G.e_val, ↓G.e_not, ↓G.e_or, ↓G.e_and, ↓G.e_xand, ↓G.e_xor, ↓G.e_xnot, ↓G.e_var, ↓G.e_c, ↓G.e_bin, ↓G.e_un, ↓G.e_chain, ↓G.e_nil, ↓G.e_cons, ↓G.e_tup, ↓G.e_lst, ↓G.e_call, ↓G.e_callM, ↓G.e_callP, ↓G.e_callO, ↓G.e_for, ↓G.e_itSeq, ↓G.e_itTup, ↓G.e_itR1, ↓G.e_itR2, G.kk_ok, G.kk_ex, G.kF_nx, G.kF_rt, G.kF_ex, G.kI_t, G.kI_f, G.kT_nm, G.kT_tp2, G.kT_ex, G.kB_bl, G.kV_some, G.kO_some, G.kFor_ok, G.nX_n, G.nX_i, G.vB_bl, G.vT_t, G.kP_rt, G.kP_nx, G.kP_ex, G.kQ_some, G.kM_rt, G.kM_nx, G.kM_ex, G.kPO_ex, G.res_bl, G.res_int, G.res_str, G.res_non, G.thr_e, G.ret_e, G.up_ok, G.up_ex, G.upO_ok, G.upO_ex, G.mkL_t, G.mkL_n, G.o_sub, G.o_lt, G.o_le, G.o_gt, G.o_ge, G.o_add, G.o_neg, G.o_isN, G.o_isNI, G.o_isNT, G.o_isNL, G.o_isNR, G.o_isNB, G.o_isNS, G.o_is, G.o_ixT, G.o_ixL, G.o_ixS, G.at_0, G.at_1, G.o_lenL, G.o_lenT, G.o_lenC, G.o_lenS, G.o_max2, G.o_min2, G.o_intB, G.o_intI, G.o_listL, G.o_listT, G.o_listC, G.o_tupL, G.o_eqIt, G.o_eqIf, G.seq_lst, G.seq_scr, G.seq_ref, G.noRL_nil, G.noRL_cons, G.noR_non, G.noR_bl, G.noR_int, G.noR_str, G.noR_dic, G.noR_scr, G.noR_tup, G.noR_lst, G.isd_int, G.isd_intb, G.isd_bool, G.isd_boolb, G.isd_tup, G.isd_lst, G.isd_ref, G.live_lst, G.tgS_nm, G.tgS_tp2, List.getElem?_cons_zero, List.getElem?_cons_succ, List.set_cons_zero, List.set_cons_succ, List.length_cons, List.length_nil, List.nil_append, List.cons_append, Bool.and_true, Bool.true_and, Bool.and_self, Bool.not_true, Bool.not_false, decide_true, decide_false, Nat.reduceAdd, Int.reduceAdd, Int.reduceSub, Int.reduceMul, Int.reduceNeg, Int.cast_ofNat_Int, Int.natCast_zero, Int.natCast_one, eq_self, Int.reduceEq, Int.reduceLT, Int.reduceLE, ↓e_app, kRef_r, dbl_lc h2 q, ap, o_mulX (c := false) (i := 2) (j := (f : Int)) (by omega) (by omega)]
        rfl
      obtain ⟨e3, e2, e⟩ := dbl_while h2 k (2 * f) (A ++ [dblL n f]) (s3 := s3) (s1 := some (.ref 0)) (by omega) (by omega) (by rw [List.length_append]; simp only [List.length_singleton]; omega) (by rw [Nat.pow_succ] at hn; rw [Nat.mul_comm 2 f, Nat.mul_assoc, Nat.mul_comm 2]; exact hn) rfl
      refine ⟨e3, e2, ?_⟩
      have ed : dblN n f (k + 1) = dblL n f :: dblN n (2 * f) k := by
        show (if f < n then _ else _) = _
        rw [if_pos q]
      rw [while_t (by unfold t_doubled_0; simp -implicitDefEqProofs only [↓G.e_seq, ↓G.e_skip, ↓G.e_asg, ↓G.e_drop, ↓G.e_ret, ↓G.e_raise, ↓G.e_raiseN, ↓G.e_if, ↓G.e_val, ↓G.e_not, ↓G.e_or, ↓G.e_and, ↓G.e_xand, ↓G.e_xor, ↓G.e_xnot, ↓G.e_var, ↓G.e_c, ↓G.e_bin, ↓G.e_un, ↓G.e_chain, ↓G.e_nil, ↓G.e_cons, ↓G.e_tup, ↓G.e_lst, ↓G.e_call, ↓G.e_callM, ↓G.e_callP, ↓G.e_callO, ↓G.e_for, ↓G.e_itSeq, ↓G.e_itTup, ↓G.e_itR1, ↓G.e_itR2, G.kk_ok, G.kk_ex, G.kF_nx, G.kF_rt, G.kF_ex, G.kI_t, G.kI_f, G.kT_nm, G.kT_tp2, G.kT_ex, G.kB_bl, G.kV_some, G.kO_some, G.kFor_ok, G.nX_n, G.nX_i, G.vB_bl, G.vT_t, G.kP_rt, G.kP_nx, G.kP_ex, G.kQ_some, G.kM_rt, G.kM_nx, G.kM_ex, G.kPO_ex, G.res_bl, G.res_int, G.res_str, G.res_non, G.thr_e, G.ret_e, G.up_ok, G.up_ex, G.upO_ok, G.upO_ex, G.mkL_t, G.mkL_n, G.o_sub, G.o_lt, G.o_le, G.o_gt, G.o_ge, G.o_add, G.o_neg, G.o_isN, G.o_isNI, G.o_isNT, G.o_isNL, G.o_isNR, G.o_isNB, G.o_isNS, G.o_is, G.o_ixT, G.o_ixL, G.o_ixS, G.at_0, G.at_1, G.o_lenL, G.o_lenT, G.o_lenC, G.o_lenS, G.o_max2, G.o_min2, G.o_intB, G.o_intI, G.o_listL, G.o_listT, G.o_listC, G.o_tupL, G.o_eqIt, G.o_eqIf, G.seq_lst, G.seq_scr, G.seq_ref, G.noRL_nil, G.noRL_cons, G.noR_non, G.noR_bl, G.noR_int, G.noR_str, G.noR_dic, G.noR_scr, G.noR_tup, G.noR_lst, G.isd_int, G.isd_intb, G.isd_bool, G.isd_boolb, G.isd_tup, G.isd_lst, G.isd_ref, G.live_lst, G.tgS_nm, G.tgS_tp2, List.getElem?_cons_zero, List.getElem?_cons_succ, List.set_cons_zero, List.set_cons_succ, List.length_cons, List.length_nil, List.nil_append, List.cons_append, Bool.and_true, Bool.true_and, Bool.and_self, Bool.not_true, Bool.not_false, decide_true, decide_false, Nat.reduceAdd, Int.reduceAdd, Int.reduceSub, Int.reduceMul, Int.reduceNeg, Int.cast_ofNat_Int, Int.natCast_zero, Int.natCast_one, eq_self, Int.reduceEq, Int.reduceLT, Int.reduceLE, z]) st, e, ed, List.append_assoc]
      rfl
    · have z : ((f : Int) < (n : Int)) ↔ False := by simp only [iff_false]; omega
      refine ⟨s3, some (.int (f : Nat)), ?_⟩
      rw [while_f (cs1 := [A.map layN]) (by unfold t_doubled_0; simp -implicitDefEqProofs only [↓G.e_seq, ↓G.e_skip, ↓G.e_asg, ↓G.e_drop, ↓G.e_ret, ↓G.e_raise, ↓G.e_raiseN, ↓G.e_if, ↓G.e_val, ↓G.e_not, ↓G.e_or, ↓G.e_and, ↓G.e_xand, ↓G.e_xor, ↓G.e_xnot, ↓G.e_var, ↓G.e_c, ↓G.e_bin, ↓G.e_un, ↓G.e_chain, ↓G.e_nil, ↓G.e_cons, ↓G.e_tup, ↓G.e_lst, ↓G.e_call, ↓G.e_callM, ↓G.e_callP, ↓G.e_callO, ↓G.e_for, ↓G.e_itSeq, ↓G.e_itTup, ↓G.e_itR1, ↓G.e_itR2, G.kk_ok, G.kk_ex, G.kF_nx, G.kF_rt, G.kF_ex, G.kI_t, G.kI_f, G.kT_nm, G.kT_tp2, G.kT_ex, G.kB_bl, G.kV_some, G.kO_some, G.kFor_ok, G.nX_n, G.nX_i, G.vB_bl, G.vT_t, G.kP_rt, G.kP_nx, G.kP_ex, G.kQ_some, G.kM_rt, G.kM_nx, G.kM_ex, G.kPO_ex, G.res_bl, G.res_int, G.res_str, G.res_non, G.thr_e, G.ret_e, G.up_ok, G.up_ex, G.upO_ok, G.upO_ex, G.mkL_t, G.mkL_n, G.o_sub, G.o_lt, G.o_le, G.o_gt, G.o_ge, G.o_add, G.o_neg, G.o_isN, G.o_isNI, G.o_isNT, G.o_isNL, G.o_isNR, G.o_isNB, G.o_isNS, G.o_is, G.o_ixT, G.o_ixL, G.o_ixS, G.at_0, G.at_1, G.o_lenL, G.o_lenT, G.o_lenC, G.o_lenS, G.o_max2, G.o_min2, G.o_intB, G.o_intI, G.o_listL, G.o_listT, G.o_listC, G.o_tupL, G.o_eqIt, G.o_eqIf, G.seq_lst, G.seq_scr, G.seq_ref, G.noRL_nil, G.noRL_cons, G.noR_non, G.noR_bl, G.noR_int, G.noR_str, G.noR_dic, G.noR_scr, G.noR_tup, G.noR_lst, G.isd_int, G.isd_intb, G.isd_bool, G.isd_boolb, G.isd_tup, G.isd_lst, G.isd_ref, G.live_lst, G.tgS_nm, G.tgS_tp2, List.getElem?_cons_zero, List.getElem?_cons_succ, List.set_cons_zero, List.set_cons_succ, List.length_cons, List.length_nil, List.nil_append, List.cons_append, Bool.and_true, Bool.true_and, Bool.and_self, Bool.not_true, Bool.not_false, decide_true, decide_false, Nat.reduceAdd, Int.reduceAdd, Int.reduceSub, Int.reduceMul, Int.reduceNeg, Int.cast_ofNat_Int, Int.natCast_zero, Int.natCast_one, eq_self, Int.reduceEq, Int.reduceLT, Int.reduceLE, z])]
      unfold dblN
      rw [if_neg q, List.append_nil]
theorem dbl_ok {n : Nat} (h1 : 1 ≤ n) (h2 : n ≤ 64) : f_doubled [.int (n : Nat)] = .ok (netD (natN (dblN n 1 7))) := by
  rw [F_doubled]
  unfold c_doubled
  obtain ⟨e3, e2, e⟩ := dbl_while (n := n) h2 7 1 [] (s3 := none) (s1 := some (.ref 0)) (by omega) (by omega) (by decide) (by omega) rfl
  have e' : sWhile t_doubled_0 b_doubled_0 8 [some (.int (n : Nat)), some (.ref 0), some (.int 1), none] [[]] = _ := e
  simp -implicitDefEqProofs only [↓G.e_seq, ↓G.e_skip, ↓G.e_asg, ↓G.e_drop, ↓G.e_ret, ↓G.e_raise, ↓G.e_raiseN, ↓G.e_if, ↓G.e_val, ↓G.e_not, ↓G.e_or, ↓G.e_and, ↓G.e_xand, ↓G.e_xor, ↓G.e_xnot, ↓G.e_var, ↓G.e_c, ↓G.e_bin, ↓G.e_un, ↓G.e_chain, ↓G.e_nil, ↓G.e_cons, ↓G.e_tup, ↓G.e_lst, ↓G.e_call, ↓G.e_callM, ↓G.e_callP, ↓G.e_callO, ↓G.e_for, ↓G.e_itSeq, ↓G.e_itTup, ↓G.e_itR1, ↓G.e_itR2, G.kk_ok, G.kk_ex, G.kF_nx, G.kF_rt, G.kF_ex, G.kI_t, G.kI_f, G.kT_nm, G.kT_tp2, G.kT_ex, G.kB_bl, G.kV_some, G.kO_some, G.kFor_ok, G.nX_n, G.nX_i, G.vB_bl, G.vT_t, G.kP_rt, G.kP_nx, G.kP_ex, G.kQ_some, G.kM_rt, G.kM_nx, G.kM_ex, G.kPO_ex, G.res_bl, G.res_int, G.res_str, G.res_non, G.thr_e, G.ret_e, G.up_ok, G.up_ex, G.upO_ok, G.upO_ex, G.mkL_t, G.mkL_n, G.o_sub, G.o_lt, G.o_le, G.o_gt, G.o_ge, G.o_add, G.o_neg, G.o_isN, G.o_isNI, G.o_isNT, G.o_isNL, G.o_isNR, G.o_isNB, G.o_isNS, G.o_is, G.o_ixT, G.o_ixL, G.o_ixS, G.at_0, G.at_1, G.o_lenL, G.o_lenT, G.o_lenC, G.o_lenS, G.o_max2, G.o_min2, G.o_intB, G.o_intI, G.o_listL, G.o_listT, G.o_listC, G.o_tupL, G.o_eqIt, G.o_eqIf, G.seq_lst, G.seq_scr, G.seq_ref, G.noRL_nil, G.noRL_cons, G.noR_non, G.noR_bl, G.noR_int, G.noR_str, G.noR_dic, G.noR_scr, G.noR_tup, G.noR_lst, G.isd_int, G.isd_intb, G.isd_bool, G.isd_boolb, G.isd_tup, G.isd_lst, G.isd_ref, G.live_lst, G.tgS_nm, G.tgS_tp2, List.getElem?_cons_zero, List.getElem?_cons_succ, List.set_cons_zero, List.set_cons_succ, List.length_cons, List.length_nil, List.nil_append, List.cons_append, Bool.and_true, Bool.true_and, Bool.and_self, Bool.not_true, Bool.not_false, decide_true, decide_false, Nat.reduceAdd, Int.reduceAdd, Int.reduceSub, Int.reduceMul, Int.reduceNeg, Int.cast_ofNat_Int, Int.natCast_zero, Int.natCast_one, eq_self, Int.reduceEq, Int.reduceLT, Int.reduceLE, ml_t h1 h2, szOk_small, Nat.zero_le, e', List.nil_append, res_cellN (cs := [(dblN n 1 7).map layN]) (i := 0) (N := dblN n 1 7) rfl]
end LK
namespace LK
open L2 G PySem PySem.Spec PyProof.Rows
/-! ### beside, around -/
theorem its_layN (L : List (Nat × Nat)) (cs : Cs) : seqOf cs (layN L) = some (layD (L.map zz)) := rfl
theorem layD_f (L : List (Nat × Nat)) : layD (L.map zz) = L.map fun p => D.tup [.int (p.1 : Nat), .int (p.2 : Nat)] := by
  unfold layD
  rw [List.map_map]
  rfl
theorem moved_ok {k : Nat} {N : NatNet} (hl : N.length ≤ 1000) (h64 : ∀ L ∈ N, L.length ≤ 64) : f_moved_up [netD (natN N), .int (k : Nat)] = .ok (netD (natN (N.map (upL k)))) := by
  rw [F_moved_up]
  unfold c_moved_up
  have m : m_moved_up_1 [some (netD (natN N)), some (.int (k : Nat)), none, none, none] [] = .ok (netD (natN (N.map (upL k)))) [] := by
    rw [netD_N]
    unfold m_moved_up_1
    rw [lc_any (xs := N) (i := layN) (o := fun L => layN (upL k L)) (live := liveOf (N.map layN) (.lst (N.map layN))) (by simp -implicitDefEqProofs only [↓G.e_seq, ↓G.e_skip, ↓G.e_asg, ↓G.e_drop, ↓G.e_ret, ↓G.e_raise, ↓G.e_raiseN, ↓G.e_if, ↓G.e_val, ↓G.e_not, ↓G.e_or, ↓G.e_and, ↓G.e_xand, ↓G.e_xor, ↓G.e_xnot, ↓G.e_var, ↓G.e_c, ↓G.e_bin, ↓G.e_un, ↓G.e_chain, ↓G.e_nil, ↓G.e_cons, ↓G.e_tup, ↓G.e_lst, ↓G.e_call, ↓G.e_callM, ↓G.e_callP, ↓G.e_callO, ↓G.e_for, ↓G.e_itSeq, ↓G.e_itTup, ↓G.e_itR1, ↓G.e_itR2, G.kk_ok, G.kk_ex, G.kF_nx, G.kF_rt, G.kF_ex, G.kI_t, G.kI_f, G.kT_nm, G.kT_tp2, G.kT_ex, G.kB_bl, G.kV_some, G.kO_some, G.kFor_ok, G.nX_n, G.nX_i, G.vB_bl, G.vT_t, G.kP_rt, G.kP_nx, G.kP_ex, G.kQ_some, G.kM_rt, G.kM_nx, G.kM_ex, G.kPO_ex, G.res_bl, G.res_int, G.res_str, G.res_non, G.thr_e, G.ret_e, G.up_ok, G.up_ex, G.upO_ok, G.upO_ex, G.mkL_t, G.mkL_n, G.o_sub, G.o_lt, G.o_le, G.o_gt, G.o_ge, G.o_add, G.o_neg, G.o_isN, G.o_isNI, G.o_isNT, G.o_isNL, G.o_isNR, G.o_isNB, G.o_isNS, G.o_is, G.o_ixT, G.o_ixL, G.o_ixS, G.at_0, G.at_1, G.o_lenL, G.o_lenT, G.o_lenC, G.o_lenS, G.o_max2, G.o_min2, G.o_intB, G.o_intI, G.o_listL, G.o_listT, G.o_listC, G.o_tupL, G.o_eqIt, G.o_eqIf, G.seq_lst, G.seq_scr, G.seq_ref, G.noRL_nil, G.noRL_cons, G.noR_non, G.noR_bl, G.noR_int, G.noR_str, G.noR_dic, G.noR_scr, G.noR_tup, G.noR_lst, G.isd_int, G.isd_intb, G.isd_bool, G.isd_boolb, G.isd_tup, G.isd_lst, G.isd_ref, G.live_lst, G.tgS_nm, G.tgS_tp2, List.getElem?_cons_zero, List.getElem?_cons_succ, List.set_cons_zero, List.set_cons_succ, List.length_cons, List.length_nil, List.nil_append, List.cons_append, Bool.and_true, Bool.true_and, Bool.and_self, Bool.not_true, Bool.not_false, decide_true, decide_false, Nat.reduceAdd, Int.reduceAdd, Int.reduceSub, Int.reduceMul, Int.reduceNeg, Int.cast_ofNat_Int, Int.natCast_zero, Int.natCast_one, eq_self, Int.reduceEq, Int.reduceLT, Int.reduceLE]) rfl hl fun L hL => ⟨_, rfl, by
      have hLl := h64 L hL
      show m_moved_up_0 _ _ = _
      unfold m_moved_up_0
      rw [lc_lay (xs := L) (i := fun p => .tup [.int (p.1 : Nat), .int (p.2 : Nat)]) (live := liveOf (layD (L.map zz)) (layN L)) (fun p => (p.1 + k, p.2 + k)) (by rw [← layD_f]; simp -implicitDefEqProofs only [↓G.e_seq, ↓G.e_skip, ↓G.e_asg, ↓G.e_drop, ↓G.e_ret, ↓G.e_raise, ↓G.e_raiseN, ↓G.e_if, ↓G.e_val, ↓G.e_not, ↓G.e_or, ↓G.e_and, ↓G.e_xand, ↓G.e_xor, ↓G.e_xnot, ↓G.e_var, ↓G.e_c, ↓G.e_bin, ↓G.e_un, ↓G.e_chain, ↓G.e_nil, ↓G.e_cons, ↓G.e_tup, ↓G.e_lst, ↓G.e_call, ↓G.e_callM, ↓G.e_callP, ↓G.e_callO, ↓G.e_for, ↓G.e_itSeq, ↓G.e_itTup, ↓G.e_itR1, ↓G.e_itR2, G.kk_ok, G.kk_ex, G.kF_nx, G.kF_rt, G.kF_ex, G.kI_t, G.kI_f, G.kT_nm, G.kT_tp2, G.kT_ex, G.kB_bl, G.kV_some, G.kO_some, G.kFor_ok, G.nX_n, G.nX_i, G.vB_bl, G.vT_t, G.kP_rt, G.kP_nx, G.kP_ex, G.kQ_some, G.kM_rt, G.kM_nx, G.kM_ex, G.kPO_ex, G.res_bl, G.res_int, G.res_str, G.res_non, G.thr_e, G.ret_e, G.up_ok, G.up_ex, G.upO_ok, G.upO_ex, G.mkL_t, G.mkL_n, G.o_sub, G.o_lt, G.o_le, G.o_gt, G.o_ge, G.o_add, G.o_neg, G.o_isN, G.o_isNI, G.o_isNT, G.o_isNL, G.o_isNR, G.o_isNB, G.o_isNS, G.o_is, G.o_ixT, G.o_ixL, G.o_ixS, G.at_0, G.at_1, G.o_lenL, G.o_lenT, G.o_lenC, G.o_lenS, G.o_max2, G.o_min2, G.o_intB, G.o_intI, G.o_listL, G.o_listT, G.o_listC, G.o_tupL, G.o_eqIt, G.o_eqIf, G.seq_lst, G.seq_scr, G.seq_ref, G.noRL_nil, G.noRL_cons, G.noR_non, G.noR_bl, G.noR_int, G.noR_str, G.noR_dic, G.noR_scr, G.noR_tup, G.noR_lst, G.isd_int, G.isd_intb, G.isd_bool, G.isd_boolb, G.isd_tup, G.isd_lst, G.isd_ref, G.live_lst, G.tgS_nm, G.tgS_tp2, List.getElem?_cons_zero, List.getElem?_cons_succ, List.set_cons_zero, List.set_cons_succ, List.length_cons, List.length_nil, List.nil_append, List.cons_append, Bool.and_true, Bool.true_and, Bool.and_self, Bool.not_true, Bool.not_false, decide_true, decide_false, Nat.reduceAdd, Int.reduceAdd, Int.reduceSub, Int.reduceMul, Int.reduceNeg, Int.cast_ofNat_Int, Int.natCast_zero, Int.natCast_one, eq_self, Int.reduceEq, Int.reduceLT, Int.reduceLE, G.wip_nil, G.wip_cons, Nat.reduceLeDiff, ↓G.e_sl, ↓G.e_pNo, ↓G.e_pSome, G.vI_i, ↓G.e_fgo_cons, ↓G.e_fgo_nil, G.kL_nx, G.kL_rt, G.kL_ex, G.kS_some, layN]) rfl (by omega) fun p hp => ⟨_, rfl, by
        unfold e_moved_up_0
        simp -implicitDefEqProofs only [↓G.e_seq, ↓G.e_skip, ↓G.e_asg, ↓G.e_drop, ↓G.e_ret, ↓G.e_raise, ↓G.e_raiseN, ↓G.e_if, ↓G.e_val, ↓G.e_not, ↓G.e_or, ↓G.e_and, ↓G.e_xand, ↓G.e_xor, ↓G.e_xnot, ↓G.e_var, ↓G.e_c, ↓G.e_bin, ↓G.e_un, ↓G.e_chain, ↓G.e_nil, ↓G.e_cons, ↓G.e_tup, ↓G.e_lst, ↓G.e_call, ↓G.e_callM, ↓G.e_callP, ↓G.e_callO, ↓G.e_for, ↓G.e_itSeq, ↓G.e_itTup, ↓G.e_itR1, ↓G.e_itR2, G.kk_ok, G.kk_ex, G.kF_nx, G.kF_rt, G.kF_ex, G.kI_t, G.kI_f, G.kT_nm, G.kT_tp2, G.kT_ex, G.kB_bl, G.kV_some, G.kO_some, G.kFor_ok, G.nX_n, G.nX_i, G.vB_bl, G.vT_t, G.kP_rt, G.kP_nx, G.kP_ex, G.kQ_some, G.kM_rt, G.kM_nx, G.kM_ex, G.kPO_ex, G.res_bl, G.res_int, G.res_str, G.res_non, G.thr_e, G.ret_e, G.up_ok, G.up_ex, G.upO_ok, G.upO_ex, G.mkL_t, G.mkL_n, G.o_sub, G.o_lt, G.o_le, G.o_gt, G.o_ge, G.o_add, G.o_neg, G.o_isN, G.o_isNI, G.o_isNT, G.o_isNL, G.o_isNR, G.o_isNB, G.o_isNS, G.o_is, G.o_ixT, G.o_ixL, G.o_ixS, G.at_0, G.at_1, G.o_lenL, G.o_lenT, G.o_lenC, G.o_lenS, G.o_max2, G.o_min2, G.o_intB, G.o_intI, G.o_listL, G.o_listT, G.o_listC, G.o_tupL, G.o_eqIt, G.o_eqIf, G.seq_lst, G.seq_scr, G.seq_ref, G.noRL_nil, G.noRL_cons, G.noR_non, G.noR_bl, G.noR_int, G.noR_str, G.noR_dic, G.noR_scr, G.noR_tup, G.noR_lst, G.isd_int, G.isd_intb, G.isd_bool, G.isd_boolb, G.isd_tup, G.isd_lst, G.isd_ref, G.live_lst, G.tgS_nm, G.tgS_tp2, List.getElem?_cons_zero, List.getElem?_cons_succ, List.set_cons_zero, List.set_cons_succ, List.length_cons, List.length_nil, List.nil_append, List.cons_append, Bool.and_true, Bool.true_and, Bool.and_self, Bool.not_true, Bool.not_false, decide_true, decide_false, Nat.reduceAdd, Int.reduceAdd, Int.reduceSub, Int.reduceMul, Int.reduceNeg, Int.cast_ofNat_Int, Int.natCast_zero, Int.natCast_one, eq_self, Int.reduceEq, Int.reduceLT, Int.reduceLE, G.wip_nil, G.wip_cons, Nat.reduceLeDiff, ↓G.e_sl, ↓G.e_pNo, ↓G.e_pSome, G.vI_i, ↓G.e_fgo_cons, ↓G.e_fgo_nil, G.kL_nx, G.kL_rt, G.kL_ex, G.kS_some, szOk_small, Nat.reduceLeDiff]
        rfl⟩]
      rfl⟩, netD_N, List.map_map]
    rfl
  simp -implicitDefEqProofs only [↓G.e_seq, ↓G.e_skip, ↓G.e_asg, ↓G.e_drop, ↓G.e_ret, ↓G.e_raise, ↓G.e_raiseN, ↓G.e_if, ↓G.e_val, ↓G.e_not, ↓G.e_or, ↓G.e_and, ↓G.e_xand, ↓G.e_xor, ↓G.e_xnot, ↓G.e_var, ↓G.e_c, ↓G.e_bin, ↓G.e_un, ↓G.e_chain, ↓G.e_nil, ↓G.e_cons, ↓G.e_tup, ↓G.e_lst, ↓G.e_call, ↓G.e_callM, ↓G.e_callP, ↓G.e_callO, ↓G.e_for, ↓G.e_itSeq, ↓G.e_itTup, ↓G.e_itR1, ↓G.e_itR2, G.kk_ok, G.kk_ex, G.kF_nx, G.kF_rt, G.kF_ex, G.kI_t, G.kI_f, G.kT_nm, G.kT_tp2, G.kT_ex, G.kB_bl, G.kV_some, G.kO_some, G.kFor_ok, G.nX_n, G.nX_i, G.vB_bl, G.vT_t, G.kP_rt, G.kP_nx, G.kP_ex, G.kQ_some, G.kM_rt, G.kM_nx, G.kM_ex, G.kPO_ex, G.res_bl, G.res_int, G.res_str, G.res_non, G.thr_e, G.ret_e, G.up_ok, G.up_ex, G.upO_ok, G.upO_ex, G.mkL_t, G.mkL_n, G.o_sub, G.o_lt, G.o_le, G.o_gt, G.o_ge, G.o_add, G.o_neg, G.o_isN, G.o_isNI, G.o_isNT, G.o_isNL, G.o_isNR, G.o_isNB, G.o_isNS, G.o_is, G.o_ixT, G.o_ixL, G.o_ixS, G.at_0, G.at_1, G.o_lenL, G.o_lenT, G.o_lenC, G.o_lenS, G.o_max2, G.o_min2, G.o_intB, G.o_intI, G.o_listL, G.o_listT, G.o_listC, G.o_tupL, G.o_eqIt, G.o_eqIf, G.seq_lst, G.seq_scr, G.seq_ref, G.noRL_nil, G.noRL_cons, G.noR_non, G.noR_bl, G.noR_int, G.noR_str, G.noR_dic, G.noR_scr, G.noR_tup, G.noR_lst, G.isd_int, G.isd_intb, G.isd_bool, G.isd_boolb, G.isd_tup, G.isd_lst, G.isd_ref, G.live_lst, G.tgS_nm, G.tgS_tp2, List.getElem?_cons_zero, List.getElem?_cons_succ, List.set_cons_zero, List.set_cons_succ, List.length_cons, List.length_nil, List.nil_append, List.cons_append, Bool.and_true, Bool.true_and, Bool.and_self, Bool.not_true, Bool.not_false, decide_true, decide_false, Nat.reduceAdd, Int.reduceAdd, Int.reduceSub, Int.reduceMul, Int.reduceNeg, Int.cast_ofNat_Int, Int.natCast_zero, Int.natCast_one, eq_self, Int.reduceEq, Int.reduceLT, Int.reduceLE, m, res_n [] (noR_net (natN (N.map (upL k))))]
theorem net_ix {A : NatNet} {a : Nat} (h : a < A.length) : atI (A.map layN) ((a : Nat) : Int) = some (layN (A.getD a [])) := by
  refine at_k (k := a) rfl ?_
  rw [List.getElem?_map, List.getD_eq_getElem?_getD, List.getElem?_eq_getElem h]
  rfl
theorem layN_app (K L : List (Nat × Nat)) : layD (K.map zz) ++ layD (L.map zz) = layD ((K ++ L).map zz) := by
  unfold layD
  rw [List.map_append, List.map_append]
theorem side_half {A : NatNet} {s0 s1 s2 : Option D} {a : Nat} {K : List (Nat × Nat)} {cs : Cs} (hA : ∀ L ∈ A, L.length ≤ 64) (hK : K.length ≤ 64) :
    b_side_by_side_0 [s0, s1, s2, some (.int (a : Nat)), some (layN K), some (netD (natN A))] cs = .ok (.nx [s0, s1, s2, some (.int (a : Nat)), some (layN (K ++ A.getD a [])), some (netD (natN A))]) cs := by
  rw [netD_N]
  unfold b_side_by_side_0
  by_cases q : a < A.length
  · have h1 : ((a : Int) < (A.length : Nat)) ↔ True := by simp; omega
    have hm : (A.getD a []).length ≤ 64 := hA _ (by rw [List.getD_eq_getElem?_getD, List.getElem?_eq_getElem q]; exact List.getElem_mem q)
    have ix := net_ix q
    have ad := addL_ok (xs := layD (K.map zz)) (ys := layD ((A.getD a []).map zz)) (by rw [layN_len, layN_len]; omega)
    rw [layN_app] at ad
    have ad' : ∀ cs, opAdd false (layN K) (layN (A.getD a [])) cs = .ok (layN (K ++ A.getD a [])) cs := ad
    simp -implicitDefEqProofs only [↓G.e_seq, ↓G.e_skip, ↓G.e_asg, ↓G.e_drop, ↓G.e_ret, ↓G.e_raise, ↓G.e_raiseN, ↓G.e_if, ↓G.e_val, ↓G.e_not, ↓G.e_or, ↓G.e_and, ↓G.e_xand, ↓G.e_xor, ↓G.e_xnot, ↓G.e_var, ↓G.e_c, ↓G.e_bin, ↓G.e_un, ↓G.e_chain, ↓G.e_nil, ↓G.e_cons, ↓G.e_tup, ↓G.e_lst, ↓G.e_call, ↓G.e_callM, ↓G.e_callP, ↓G.e_callO, ↓G.e_for, ↓G.e_itSeq, ↓G.e_itTup, ↓G.e_itR1, ↓G.e_itR2, G.kk_ok, G.kk_ex, G.kF_nx, G.kF_rt, G.kF_ex, G.kI_t, G.kI_f, G.kT_nm, G.kT_tp2, G.kT_ex, G.kB_bl, G.kV_some, G.kO_some, G.kFor_ok, G.nX_n, G.nX_i, G.vB_bl, G.vT_t, G.kP_rt, G.kP_nx, G.kP_ex, G.kQ_some, G.kM_rt, G.kM_nx, G.kM_ex, G.kPO_ex, G.res_bl, G.res_int, G.res_str, G.res_non, G.thr_e, G.ret_e, G.up_ok, G.up_ex, G.upO_ok, G.upO_ex, G.mkL_t, G.mkL_n, G.o_sub, G.o_lt, G.o_le, G.o_gt, G.o_ge, G.o_add, G.o_neg, G.o_isN, G.o_isNI, G.o_isNT, G.o_isNL, G.o_isNR, G.o_isNB, G.o_isNS, G.o_is, G.o_ixT, G.o_ixL, G.o_ixS, G.at_0, G.at_1, G.o_lenL, G.o_lenT, G.o_lenC, G.o_lenS, G.o_max2, G.o_min2, G.o_intB, G.o_intI, G.o_listL, G.o_listT, G.o_listC, G.o_tupL, G.o_eqIt, G.o_eqIf, G.seq_lst, G.seq_scr, G.seq_ref, G.noRL_nil, G.noRL_cons, G.noR_non, G.noR_bl, G.noR_int, G.noR_str, G.noR_dic, G.noR_scr, G.noR_tup, G.noR_lst, G.isd_int, G.isd_intb, G.isd_bool, G.isd_boolb, G.isd_tup, G.isd_lst, G.isd_ref, G.live_lst, G.tgS_nm, G.tgS_tp2, List.getElem?_cons_zero, List.getElem?_cons_succ, List.set_cons_zero, List.set_cons_succ, List.length_cons, List.length_nil, List.nil_append, List.cons_append, Bool.and_true, Bool.true_and, Bool.and_self, Bool.not_true, Bool.not_false, decide_true, decide_false, Nat.reduceAdd, Int.reduceAdd, Int.reduceSub, Int.reduceMul, Int.reduceNeg, Int.cast_ofNat_Int, Int.natCast_zero, Int.natCast_one, eq_self, Int.reduceEq, Int.reduceLT, Int.reduceLE, List.length_map, h1, ix, ad']
  · have h1 : ((a : Int) < (A.length : Nat)) ↔ False := by simp; omega
    have e : A.getD a [] = [] := by rw [List.getD_eq_getElem?_getD, List.getElem?_eq_none (by omega)]; rfl
    simp -implicitDefEqProofs only [↓G.e_seq, ↓G.e_skip, ↓G.e_asg, ↓G.e_drop, ↓G.e_ret, ↓G.e_raise, ↓G.e_raiseN, ↓G.e_if, ↓G.e_val, ↓G.e_not, ↓G.e_or, ↓G.e_and, ↓G.e_xand, ↓G.e_xor, ↓G.e_xnot, ↓G.e_var, ↓G.e_c, ↓G.e_bin, ↓G.e_un, ↓G.e_chain, ↓G.e_nil, ↓G.e_cons, ↓G.e_tup, ↓G.e_lst, ↓G.e_call, ↓G.e_callM, ↓G.e_callP, ↓G.e_callO, ↓G.e_for, ↓G.e_itSeq, ↓G.e_itTup, ↓G.e_itR1, ↓G.e_itR2, G.kk_ok, G.kk_ex, G.kF_nx, G.kF_rt, G.kF_ex, G.kI_t, G.kI_f, G.kT_nm, G.kT_tp2, G.kT_ex, G.kB_bl, G.kV_some, G.kO_some, G.kFor_ok, G.nX_n, G.nX_i, G.vB_bl, G.vT_t, G.kP_rt, G.kP_nx, G.kP_ex, G.kQ_some, G.kM_rt, G.kM_nx, G.kM_ex, G.kPO_ex, G.res_bl, G.res_int, G.res_str, G.res_non, G.thr_e, G.ret_e, G.up_ok, G.up_ex, G.upO_ok, G.upO_ex, G.mkL_t, G.mkL_n, G.o_sub, G.o_lt, G.o_le, G.o_gt, G.o_ge, G.o_add, G.o_neg, G.o_isN, G.o_isNI, G.o_isNT, G.o_isNL, G.o_isNR, G.o_isNB, G.o_isNS, G.o_is, G.o_ixT, G.o_ixL, G.o_ixS, G.at_0, G.at_1, G.o_lenL, G.o_lenT, G.o_lenC, G.o_lenS, G.o_max2, G.o_min2, G.o_intB, G.o_intI, G.o_listL, G.o_listT, G.o_listC, G.o_tupL, G.o_eqIt, G.o_eqIf, G.seq_lst, G.seq_scr, G.seq_ref, G.noRL_nil, G.noRL_cons, G.noR_non, G.noR_bl, G.noR_int, G.noR_str, G.noR_dic, G.noR_scr, G.noR_tup, G.noR_lst, G.isd_int, G.isd_intb, G.isd_bool, G.isd_boolb, G.isd_tup, G.isd_lst, G.isd_ref, G.live_lst, G.tgS_nm, G.tgS_tp2, List.getElem?_cons_zero, List.getElem?_cons_succ, List.set_cons_zero, List.set_cons_succ, List.length_cons, List.length_nil, List.nil_append, List.cons_append, Bool.and_true, Bool.true_and, Bool.and_self, Bool.not_true, Bool.not_false, decide_true, decide_false, Nat.reduceAdd, Int.reduceAdd, Int.reduceSub, Int.reduceMul, Int.reduceNeg, Int.cast_ofNat_Int, Int.natCast_zero, Int.natCast_one, eq_self, Int.reduceEq, Int.reduceLT, Int.reduceLE, List.length_map, h1, e, List.append_nil]
theorem take_succ {α : Type} {l : List α} {i : Nat} {x : α} (h : l[i]? = some x) : l.take (i + 1) = l.take i ++ [x] := by
  rw [List.take_add_one, h]
  rfl
theorem side_get? (A B : NatNet) {a : Nat} (h : a < max A.length B.length) : (sideN A B)[a]? = some (A.getD a [] ++ B.getD a []) := by
  have e := sideN_get A B a
  have l : a < (sideN A B).length := by rw [sideN_len]; exact h
  rw [List.getD_eq_getElem?_getD, List.getElem?_eq_getElem l] at e
  rw [List.getElem?_eq_getElem l]
  exact congrArg some e
theorem side_ok {A B : NatNet} (hA : ∀ L ∈ A, L.length ≤ 64) (hB : ∀ L ∈ B, L.length ≤ 64) (la : A.length ≤ 1000) (lb : B.length ≤ 1000) : f_side_by_side [netD (natN A), netD (natN B)] = .ok (netD (natN (sideN A B))) := by
  rw [F_side_by_side]
  unfold c_side_by_side
  have hm : max (A.length : Int) (B.length : Int) = ((max A.length B.length : Nat) : Int) := by omega
  have hmx : max A.length B.length ≤ 1000 := by omega
  obtain ⟨e', cs', h4, rfl, x3, x4, x5, rfl⟩ := forGo_pre (live := fun _ => true) (t := .nm 3) (b := b_side_by_side_1) (ys := (List.range (max A.length B.length)).map fun i => .int (i : Nat)) (r := []) (env := [some (netD (natN A)), some (netD (natN B)), some (.ref 0), none, none, none]) (cs := [[]])
    (fun i env cs => cs = [((sideN A B).take i).map layN] ∧ ∃ x3 x4 x5, env = [some (netD (natN A)), some (netD (natN B)), some (.ref 0), x3, x4, x5]) (fun _ _ _ _ => rfl) (by
      rintro i x env cs hx ⟨rfl, x3, x4, x5, rfl⟩
      rw [List.getElem?_map, Option.map_eq_some_iff] at hx
      obtain ⟨a, ha, rfl⟩ := hx
      have ei : i = a := by
        obtain ⟨h1, h2⟩ := List.getElem?_eq_some_iff.mp ha
        simpa using h2
      have hil : i < max A.length B.length := by
        have := (List.getElem?_eq_some_iff.mp ha).1
        simpa using this
      subst ei
      have g := side_get? A B hil
      have p1 := side_half (A := A) (s0 := some (netD (natN A))) (s1 := some (netD (natN B))) (s2 := some (.ref 0)) (a := i) (K := []) (cs := [((sideN A B).take i).map layN]) hA (by decide)
      have hm1 : (A.getD i []).length ≤ 64 := by
        by_cases q : i < A.length
        · exact hA _ (by rw [List.getD_eq_getElem?_getD, List.getElem?_eq_getElem q]; exact List.getElem_mem q)
        · rw [List.getD_eq_getElem?_getD, List.getElem?_eq_none (by omega)]
          decide
      rw [List.nil_append] at p1
      have p2 := side_half (A := B) (s0 := some (netD (natN A))) (s1 := some (netD (natN B))) (s2 := some (.ref 0)) (a := i) (K := A.getD i []) (cs := [((sideN A B).take i).map layN]) hB hm1
      have lp : l_side_by_side_0 [some (netD (natN A)), some (netD (natN B)), some (.ref 0), some (.int (i : Nat)), some (.lst []), x5] [((sideN A B).take i).map layN] = .ok (.nx [some (netD (natN A)), some (netD (natN B)), some (.ref 0), some (.int (i : Nat)), some (layN (A.getD i [] ++ B.getD i [])), some (netD (natN B))]) [((sideN A B).take i).map layN] := by
        have p1' : b_side_by_side_0 [some (netD (natN A)), some (netD (natN B)), some (.ref 0), some (.int (i : Nat)), some (.lst []), some (netD (natN A))] [((sideN A B).take i).map layN] = _ := p1
        unfold l_side_by_side_0
        simp -implicitDefEqProofs only [↓G.e_seq, ↓G.e_skip, ↓G.e_asg, ↓G.e_drop, ↓G.e_ret, ↓G.e_raise, ↓G.e_raiseN, ↓G.e_if, ↓G.e_val, ↓G.e_not, ↓G.e_or, ↓G.e_and, ↓G.e_xand, ↓G.e_xor, ↓G.e_xnot, ↓G.e_var, ↓G.e_c, ↓G.e_bin, ↓G.e_un, ↓G.e_chain, ↓G.e_nil, ↓G.e_cons, ↓G.e_tup, ↓G.e_lst, ↓G.e_call, ↓G.e_callM, ↓G.e_callP, ↓G.e_callO, ↓G.e_for, ↓G.e_itSeq, ↓G.e_itTup, ↓G.e_itR1, ↓G.e_itR2, G.kk_ok, G.kk_ex, G.kF_nx, G.kF_rt, G.kF_ex, G.kI_t, G.kI_f, G.kT_nm, G.kT_tp2, G.kT_ex, G.kB_bl, G.kV_some, G.kO_some, G.kFor_ok, G.nX_n, G.nX_i, G.vB_bl, G.vT_t, G.kP_rt, G.kP_nx, G.kP_ex, G.kQ_some, G.kM_rt, G.kM_nx, G.kM_ex, G.kPO_ex, G.res_bl, G.res_int, G.res_str, G.res_non, G.thr_e, G.ret_e, G.up_ok, G.up_ex, G.upO_ok, G.upO_ex, G.mkL_t, G.mkL_n, G.o_sub, G.o_lt, G.o_le, G.o_gt, G.o_ge, G.o_add, G.o_neg, G.o_isN, G.o_isNI, G.o_isNT, G.o_isNL, G.o_isNR, G.o_isNB, G.o_isNS, G.o_is, G.o_ixT, G.o_ixL, G.o_ixS, G.at_0, G.at_1, G.o_lenL, G.o_lenT, G.o_lenC, G.o_lenS, G.o_max2, G.o_min2, G.o_intB, G.o_intI, G.o_listL, G.o_listT, G.o_listC, G.o_tupL, G.o_eqIt, G.o_eqIf, G.seq_lst, G.seq_scr, G.seq_ref, G.noRL_nil, G.noRL_cons, G.noR_non, G.noR_bl, G.noR_int, G.noR_str, G.noR_dic, G.noR_scr, G.noR_tup, G.noR_lst, G.isd_int, G.isd_intb, G.isd_bool, G.isd_boolb, G.isd_tup, G.isd_lst, G.isd_ref, G.live_lst, G.tgS_nm, G.tgS_tp2, List.getElem?_cons_zero, List.getElem?_cons_succ, List.set_cons_zero, List.set_cons_succ, List.length_cons, List.length_nil, List.nil_append, List.cons_append, Bool.and_true, Bool.true_and, Bool.and_self, Bool.not_true, Bool.not_false, decide_true, decide_false, Nat.reduceAdd, Int.reduceAdd, Int.reduceSub, Int.reduceMul, Int.reduceNeg, Int.cast_ofNat_Int, Int.natCast_zero, Int.natCast_one, eq_self, Int.reduceEq, Int.reduceLT, Int.reduceLE, G.wip_nil, G.wip_cons, Nat.reduceLeDiff, ↓G.e_sl, ↓G.e_pNo, ↓G.e_pSome, G.vI_i, ↓G.e_fgo_cons, ↓G.e_fgo_nil, G.kL_nx, G.kL_rt, G.kL_ex, G.kS_some, szOk_small, Nat.reduceLeDiff, p1', p2]
      have ap := cApp_ok (cs := [((sideN A B).take i).map layN]) (i := 0) (layN (A.getD i [] ++ B.getD i [])) rfl (by rw [List.length_map, List.length_take, sideN_len]; omega)
      refine ⟨_, rfl, [some (netD (natN A)), some (netD (natN B)), some (.ref 0), some (.int (i : Nat)), some (layN (A.getD i [] ++ B.getD i [])), some (netD (natN B))], [((sideN A B).take (i + 1)).map layN], ?_, rfl, _, _, _, rfl⟩
      rw [take_succ g, List.map_append]
      unfold b_side_by_side_1
      simp -implicitDefEqProofs only [↓G.e_seq, ↓G.e_skip, ↓G.e_asg, ↓G.e_drop, ↓G.e_ret, ↓G.e_raise, ↓G.e_raiseN, ↓G.e_if, ↓G.e_val, ↓G.e_not, ↓G.e_or, ↓G.e_and, ↓G.e_xand, ↓G.e_xor, ↓G.e_xnot, ↓G.e_var, ↓G.e_c, ↓G.e_bin, ↓G.e_un, ↓G.e_chain, ↓G.e_nil, ↓G.e_cons, ↓G.e_tup, ↓G.e_lst, ↓G.e_call, ↓G.e_callM, ↓G.e_callP, ↓G.e_callO, ↓G.e_for, ↓G.e_itSeq, ↓G.e_itTup, ↓G.e_itR1, ↓G.e_itR2, G.kk_ok, G.kk_ex, G.kF_nx, G.kF_rt, G.kF_ex, G.kI_t, G.kI_f, G.kT_nm, G.kT_tp2, G.kT_ex, G.kB_bl, G.kV_some, G.kO_some, G.kFor_ok, G.nX_n, G.nX_i, G.vB_bl, G.vT_t, G.kP_rt, G.kP_nx, G.kP_ex, G.kQ_some, G.kM_rt, G.kM_nx, G.kM_ex, G.kPO_ex, G.res_bl, G.res_int, G.res_str, G.res_non, G.thr_e, G.ret_e, G.up_ok, G.up_ex, G.upO_ok, G.upO_ex, G.mkL_t, G.mkL_n, G.o_sub, G.o_lt, G.o_le, G.o_gt, G.o_ge, G.o_add, G.o_neg, G.o_isN, G.o_isNI, G.o_isNT, G.o_isNL, G.o_isNR, G.o_isNB, G.o_isNS, G.o_is, G.o_ixT, G.o_ixL, G.o_ixS, G.at_0, G.at_1, G.o_lenL, G.o_lenT, G.o_lenC, G.o_lenS, G.o_max2, G.o_min2, G.o_intB, G.o_intI, G.o_listL, G.o_listT, G.o_listC, G.o_tupL, G.o_eqIt, G.o_eqIf, G.seq_lst, G.seq_scr, G.seq_ref, G.noRL_nil, G.noRL_cons, G.noR_non, G.noR_bl, G.noR_int, G.noR_str, G.noR_dic, G.noR_scr, G.noR_tup, G.noR_lst, G.isd_int, G.isd_intb, G.isd_bool, G.isd_boolb, G.isd_tup, G.isd_lst, G.isd_ref, G.live_lst, G.tgS_nm, G.tgS_tp2, List.getElem?_cons_zero, List.getElem?_cons_succ, List.set_cons_zero, List.set_cons_succ, List.length_cons, List.length_nil, List.nil_append, List.cons_append, Bool.and_true, Bool.true_and, Bool.and_self, Bool.not_true, Bool.not_false, decide_true, decide_false, Nat.reduceAdd, Int.reduceAdd, Int.reduceSub, Int.reduceMul, Int.reduceNeg, Int.cast_ofNat_Int, Int.natCast_zero, Int.natCast_one, eq_self, Int.reduceEq, Int.reduceLT, Int.reduceLE, szOk_small, Nat.zero_le, lp, ↓e_app, kRef_r, ap]
      rfl) ⟨rfl, none, none, none, rfl⟩
  rw [List.append_nil, forGo_end rfl] at h4
  have ll : ((List.range (max A.length B.length)).map fun i => D.int (i : Nat)).length = (sideN A B).length := by rw [sideN_len]; simp
  rw [ll, List.take_length] at h4
  have ev1 : opLen [netD (natN A)] = opLen [.lst (A.map layN)] := by rw [netD_N]
  have ev2 : opLen [netD (natN B)] = opLen [.lst (B.map layN)] := by rw [netD_N]
  simp -implicitDefEqProofs only [↓G.e_seq, ↓G.e_skip, ↓G.e_asg, ↓G.e_drop, ↓G.e_ret, ↓G.e_raise, ↓G.e_raiseN, ↓G.e_if, ↓G.e_val, ↓G.e_not, ↓G.e_or, ↓G.e_and, ↓G.e_xand, ↓G.e_xor, ↓G.e_xnot, ↓G.e_var, ↓G.e_c, ↓G.e_bin, ↓G.e_un, ↓G.e_chain, ↓G.e_nil, ↓G.e_cons, ↓G.e_tup, ↓G.e_lst, ↓G.e_call, ↓G.e_callM, ↓G.e_callP, ↓G.e_callO, ↓G.e_for, ↓G.e_itSeq, ↓G.e_itTup, ↓G.e_itR1, ↓G.e_itR2, G.kk_ok, G.kk_ex, G.kF_nx, G.kF_rt, G.kF_ex, G.kI_t, G.kI_f, G.kT_nm, G.kT_tp2, G.kT_ex, G.kB_bl, G.kV_some, G.kO_some, G.kFor_ok, G.nX_n, G.nX_i, G.vB_bl, G.vT_t, G.kP_rt, G.kP_nx, G.kP_ex, G.kQ_some, G.kM_rt, G.kM_nx, G.kM_ex, G.kPO_ex, G.res_bl, G.res_int, G.res_str, G.res_non, G.thr_e, G.ret_e, G.up_ok, G.up_ex, G.upO_ok, G.upO_ex, G.mkL_t, G.mkL_n, G.o_sub, G.o_lt, G.o_le, G.o_gt, G.o_ge, G.o_add, G.o_neg, G.o_isN, G.o_isNI, G.o_isNT, G.o_isNL, G.o_isNR, G.o_isNB, G.o_isNS, G.o_is, G.o_ixT, G.o_ixL, G.o_ixS, G.at_0, G.at_1, G.o_lenL, G.o_lenT, G.o_lenC, G.o_lenS, G.o_max2, G.o_min2, G.o_intB, G.o_intI, G.o_listL, G.o_listT, G.o_listC, G.o_tupL, G.o_eqIt, G.o_eqIf, G.seq_lst, G.seq_scr, G.seq_ref, G.noRL_nil, G.noRL_cons, G.noR_non, G.noR_bl, G.noR_int, G.noR_str, G.noR_dic, G.noR_scr, G.noR_tup, G.noR_lst, G.isd_int, G.isd_intb, G.isd_bool, G.isd_boolb, G.isd_tup, G.isd_lst, G.isd_ref, G.live_lst, G.tgS_nm, G.tgS_tp2, List.getElem?_cons_zero, List.getElem?_cons_succ, List.set_cons_zero, List.set_cons_succ, List.length_cons, List.length_nil, List.nil_append, List.cons_append, Bool.and_true, Bool.true_and, Bool.and_self, Bool.not_true, Bool.not_false, decide_true, decide_false, Nat.reduceAdd, Int.reduceAdd, Int.reduceSub, Int.reduceMul, Int.reduceNeg, Int.cast_ofNat_Int, Int.natCast_zero, Int.natCast_one, eq_self, Int.reduceEq, Int.reduceLT, Int.reduceLE, szOk_small, Nat.zero_le, l_side_by_side_1, ev1, ev2, List.length_map, hm, o_R1 (n := max A.length B.length) (by omega), h4, res_cellN (cs := [(sideN A B).map layN]) (i := 0) (N := sideN A B) rfl]
theorem net_add {A B : NatNet} (h : A.length + B.length ≤ 1000) (cs : Cs) : opAdd false (netD (natN A)) (netD (natN B)) cs = .ok (netD (natN (A ++ B))) cs := by
  rw [netD_N, netD_N, netD_N, List.map_append]
  exact addL_ok (by rw [List.length_map, List.length_map]; omega) cs
theorem net_one (L : List (Nat × Nat)) : D.lst [layN L] = netD (natN [L]) := by
  rw [netD_N]
  rfl
theorem up_64 {k : Nat} {N : NatNet} (h : ∀ L ∈ N, L.length ≤ 64) : ∀ L ∈ N.map (upL k), L.length ≤ 64 := fun L hL => by
  obtain ⟨K, hK, rfl⟩ := List.mem_map.mp hL
  unfold upL
  rw [List.length_map]
  exact h K hK
theorem pb_ok {n m : Nat} {N O : NatNet} (h1 : 1 ≤ n) (hm : m ≤ 64) (lN : N.length ≤ 200) (lO : O.length ≤ 200) (hN : ∀ L ∈ N, L.length ≤ 64) (hO : ∀ L ∈ O, L.length ≤ 64) : f_put_behind [netD (natN N), .int (n : Nat), netD (natN O), .int (m : Nat)] = .ok (netD (natN (behN n m N O))) := by
  rw [F_put_behind]
  unfold c_put_behind
  have m1 : m_put_behind_0 [some (netD (natN N)), some (.int (n : Nat)), some (netD (natN O)), some (.int (m : Nat)), none, none] [] = .ok (layN (lastL n m)) [] := by
    unfold m_put_behind_0
    rw [lc_lay (xs := List.range m) (i := fun i => .int (i : Nat)) (live := fun _ => true) (fun k => (n - 1, n + k)) (by simp -implicitDefEqProofs only [↓G.e_seq, ↓G.e_skip, ↓G.e_asg, ↓G.e_drop, ↓G.e_ret, ↓G.e_raise, ↓G.e_raiseN, ↓G.e_if, ↓G.e_val, ↓G.e_not, ↓G.e_or, ↓G.e_and, ↓G.e_xand, ↓G.e_xor, ↓G.e_xnot, ↓G.e_var, ↓G.e_c, ↓G.e_bin, ↓G.e_un, ↓G.e_chain, ↓G.e_nil, ↓G.e_cons, ↓G.e_tup, ↓G.e_lst, ↓G.e_call, ↓G.e_callM, ↓G.e_callP, ↓G.e_callO, ↓G.e_for, ↓G.e_itSeq, ↓G.e_itTup, ↓G.e_itR1, ↓G.e_itR2, G.kk_ok, G.kk_ex, G.kF_nx, G.kF_rt, G.kF_ex, G.kI_t, G.kI_f, G.kT_nm, G.kT_tp2, G.kT_ex, G.kB_bl, G.kV_some, G.kO_some, G.kFor_ok, G.nX_n, G.nX_i, G.vB_bl, G.vT_t, G.kP_rt, G.kP_nx, G.kP_ex, G.kQ_some, G.kM_rt, G.kM_nx, G.kM_ex, G.kPO_ex, G.res_bl, G.res_int, G.res_str, G.res_non, G.thr_e, G.ret_e, G.up_ok, G.up_ex, G.upO_ok, G.upO_ex, G.mkL_t, G.mkL_n, G.o_sub, G.o_lt, G.o_le, G.o_gt, G.o_ge, G.o_add, G.o_neg, G.o_isN, G.o_isNI, G.o_isNT, G.o_isNL, G.o_isNR, G.o_isNB, G.o_isNS, G.o_is, G.o_ixT, G.o_ixL, G.o_ixS, G.at_0, G.at_1, G.o_lenL, G.o_lenT, G.o_lenC, G.o_lenS, G.o_max2, G.o_min2, G.o_intB, G.o_intI, G.o_listL, G.o_listT, G.o_listC, G.o_tupL, G.o_eqIt, G.o_eqIf, G.seq_lst, G.seq_scr, G.seq_ref, G.noRL_nil, G.noRL_cons, G.noR_non, G.noR_bl, G.noR_int, G.noR_str, G.noR_dic, G.noR_scr, G.noR_tup, G.noR_lst, G.isd_int, G.isd_intb, G.isd_bool, G.isd_boolb, G.isd_tup, G.isd_lst, G.isd_ref, G.live_lst, G.tgS_nm, G.tgS_tp2, List.getElem?_cons_zero, List.getElem?_cons_succ, List.set_cons_zero, List.set_cons_succ, List.length_cons, List.length_nil, List.nil_append, List.cons_append, Bool.and_true, Bool.true_and, Bool.and_self, Bool.not_true, Bool.not_false, decide_true, decide_false, Nat.reduceAdd, Int.reduceAdd, Int.reduceSub, Int.reduceMul, Int.reduceNeg, Int.cast_ofNat_Int, Int.natCast_zero, Int.natCast_one, eq_self, Int.reduceEq, Int.reduceLT, Int.reduceLE, o_R1 (n := m) (by omega)]) rfl (by simp; omega) fun x hx => ⟨_, rfl, by
      have z : (n : Int) - 1 = ((n - 1 : Nat) : Int) := by omega
      unfold e_put_behind_0
      simp -implicitDefEqProofs only [↓G.e_seq, ↓G.e_skip, ↓G.e_asg, ↓G.e_drop, ↓G.e_ret, ↓G.e_raise, ↓G.e_raiseN, ↓G.e_if, ↓G.e_val, ↓G.e_not, ↓G.e_or, ↓G.e_and, ↓G.e_xand, ↓G.e_xor, ↓G.e_xnot, ↓G.e_var, ↓G.e_c, ↓G.e_bin, ↓G.e_un, ↓G.e_chain, ↓G.e_nil, ↓G.e_cons, ↓G.e_tup, ↓G.e_lst, ↓G.e_call, ↓G.e_callM, ↓G.e_callP, ↓G.e_callO, ↓G.e_for, ↓G.e_itSeq, ↓G.e_itTup, ↓G.e_itR1, ↓G.e_itR2, G.kk_ok, G.kk_ex, G.kF_nx, G.kF_rt, G.kF_ex, G.kI_t, G.kI_f, G.kT_nm, G.kT_tp2, G.kT_ex, G.kB_bl, G.kV_some, G.kO_some, G.kFor_ok, G.nX_n, G.nX_i, G.vB_bl, G.vT_t, G.kP_rt, G.kP_nx, G.kP_ex, G.kQ_some, G.kM_rt, G.kM_nx, G.kM_ex, G.kPO_ex, G.res_bl, G.res_int, G.res_str, G.res_non, G.thr_e, G.ret_e, G.up_ok, G.up_ex, G.upO_ok, G.upO_ex, G.mkL_t, G.mkL_n, G.o_sub, G.o_lt, G.o_le, G.o_gt, G.o_ge, G.o_add, G.o_neg, G.o_isN, G.o_isNI, G.o_isNT, G.o_isNL, G.o_isNR, G.o_isNB, G.o_isNS, G.o_is, G.o_ixT, G.o_ixL, G.o_ixS, G.at_0, G.at_1, G.o_lenL, G.o_lenT, G.o_lenC, G.o_lenS, G.o_max2, G.o_min2, G.o_intB, G.o_intI, G.o_listL, G.o_listT, G.o_listC, G.o_tupL, G.o_eqIt, G.o_eqIf, G.seq_lst, G.seq_scr, G.seq_ref, G.noRL_nil, G.noRL_cons, G.noR_non, G.noR_bl, G.noR_int, G.noR_str, G.noR_dic, G.noR_scr, G.noR_tup, G.noR_lst, G.isd_int, G.isd_intb, G.isd_bool, G.isd_boolb, G.isd_tup, G.isd_lst, G.isd_ref, G.live_lst, G.tgS_nm, G.tgS_tp2, List.getElem?_cons_zero, List.getElem?_cons_succ, List.set_cons_zero, List.set_cons_succ, List.length_cons, List.length_nil, List.nil_append, List.cons_append, Bool.and_true, Bool.true_and, Bool.and_self, Bool.not_true, Bool.not_false, decide_true, decide_false, Nat.reduceAdd, Int.reduceAdd, Int.reduceSub, Int.reduceMul, Int.reduceNeg, Int.cast_ofNat_Int, Int.natCast_zero, Int.natCast_one, eq_self, Int.reduceEq, Int.reduceLT, Int.reduceLE, G.wip_nil, G.wip_cons, Nat.reduceLeDiff, ↓G.e_sl, ↓G.e_pNo, ↓G.e_pSome, G.vI_i, ↓G.e_fgo_cons, ↓G.e_fgo_nil, G.kL_nx, G.kL_rt, G.kL_ex, G.kS_some, szOk_small, Nat.reduceLeDiff, z]
      rfl⟩]
    rfl
  have sb := side_ok (A := N) (B := O.map (upL n)) hN (up_64 hO) (by omega) (by rw [List.length_map]; omega)
  have ad : ∀ cs, opAdd false (netD (natN (sideN N (O.map (upL n))))) (netD (natN [lastL n m])) cs = .ok (netD (natN (behN n m N O))) cs := net_add (A := sideN N (O.map (upL n))) (B := [lastL n m]) (by
    rw [sideN_len, List.length_map]
    simp only [List.length_singleton]
    omega)
  simp -implicitDefEqProofs only [↓G.e_seq, ↓G.e_skip, ↓G.e_asg, ↓G.e_drop, ↓G.e_ret, ↓G.e_raise, ↓G.e_raiseN, ↓G.e_if, ↓G.e_val, ↓G.e_not, ↓G.e_or, ↓G.e_and, ↓G.e_xand, ↓G.e_xor, ↓G.e_xnot, ↓G.e_var, ↓G.e_c, ↓G.e_bin, ↓G.e_un, ↓G.e_chain, ↓G.e_nil, ↓G.e_cons, ↓G.e_tup, ↓G.e_lst, ↓G.e_call, ↓G.e_callM, ↓G.e_callP, ↓G.e_callO, ↓G.e_for, ↓G.e_itSeq, ↓G.e_itTup, ↓G.e_itR1, ↓G.e_itR2, G.kk_ok, G.kk_ex, G.kF_nx, G.kF_rt, G.kF_ex, G.kI_t, G.kI_f, G.kT_nm, G.kT_tp2, G.kT_ex, G.kB_bl, G.kV_some, G.kO_some, G.kFor_ok, G.nX_n, G.nX_i, G.vB_bl, G.vT_t, G.kP_rt, G.kP_nx, G.kP_ex, G.kQ_some, G.kM_rt, G.kM_nx, G.kM_ex, G.kPO_ex, G.res_bl, G.res_int, G.res_str, G.res_non, G.thr_e, G.ret_e, G.up_ok, G.up_ex, G.upO_ok, G.upO_ex, G.mkL_t, G.mkL_n, G.o_sub, G.o_lt, G.o_le, G.o_gt, G.o_ge, G.o_add, G.o_neg, G.o_isN, G.o_isNI, G.o_isNT, G.o_isNL, G.o_isNR, G.o_isNB, G.o_isNS, G.o_is, G.o_ixT, G.o_ixL, G.o_ixS, G.at_0, G.at_1, G.o_lenL, G.o_lenT, G.o_lenC, G.o_lenS, G.o_max2, G.o_min2, G.o_intB, G.o_intI, G.o_listL, G.o_listT, G.o_listC, G.o_tupL, G.o_eqIt, G.o_eqIf, G.seq_lst, G.seq_scr, G.seq_ref, G.noRL_nil, G.noRL_cons, G.noR_non, G.noR_bl, G.noR_int, G.noR_str, G.noR_dic, G.noR_scr, G.noR_tup, G.noR_lst, G.isd_int, G.isd_intb, G.isd_bool, G.isd_boolb, G.isd_tup, G.isd_lst, G.isd_ref, G.live_lst, G.tgS_nm, G.tgS_tp2, List.getElem?_cons_zero, List.getElem?_cons_succ, List.set_cons_zero, List.set_cons_succ, List.length_cons, List.length_nil, List.nil_append, List.cons_append, Bool.and_true, Bool.true_and, Bool.and_self, Bool.not_true, Bool.not_false, decide_true, decide_false, Nat.reduceAdd, Int.reduceAdd, Int.reduceSub, Int.reduceMul, Int.reduceNeg, Int.cast_ofNat_Int, Int.natCast_zero, Int.natCast_one, eq_self, Int.reduceEq, Int.reduceLT, Int.reduceLE, m1, noR_net, moved_ok (k := n) (by omega : O.length ≤ 1000) hO, sb, szOk_small, Nat.reduceLeDiff, net_one, ad, res_n [] (noR_net (natN (behN n m N O)))]
end LK
namespace LK
open L2 G PySem PySem.Spec PyProof.Rows
theorem r3_fact : ∀ n : Nat, n < 65 → 2 ≤ n → (decide ((2 : Int) ≠ 0 ∧ (2 : Int).natAbs < 1073741824 ∧ 0 ≤ Builtin.Range.rangeSize 0 ((n : Int) - 1) 2) && Builtin.Range.small 0 ((n : Int) - 1) 2) = true ∧ (Builtin.Range.rangeSize 0 ((n : Int) - 1) 2).toNat = n / 2 ∧
    (decide ((2 : Int) ≠ 0 ∧ (2 : Int).natAbs < 1073741824 ∧ 0 ≤ Builtin.Range.rangeSize 1 ((n : Int) - 1) 2) && Builtin.Range.small 1 ((n : Int) - 1) 2) = true ∧ (Builtin.Range.rangeSize 1 ((n : Int) - 1) 2).toNat = (n - 1) / 2 := by decide +kernel
theorem r3_0 {n : Nat} (h1 : 2 ≤ n) (h2 : n ≤ 64) (cs : Cs) : opR3 (.int 0) (.int ((n : Int) - 1)) (.int 2) cs = .ok ⟨(List.range (n / 2)).map fun i => .int ((2 * i : Nat) : Int), fun _ => true⟩ cs := by
  obtain ⟨a, b, _, _⟩ := r3_fact n (by omega) h1
  show (if _ then M.ret _ else M.no) cs = _
  rw [if_pos a, b]
  unfold rngC
  have : ((List.range (n / 2)).map fun i => D.int ((0 : Int) + (i : Nat) * 2)) = (List.range (n / 2)).map fun i => D.int ((2 * i : Nat) : Int) := List.map_congr_left fun i _ => congrArg D.int (by omega)
  rw [this]
  rfl
theorem r3_1 {n : Nat} (h1 : 2 ≤ n) (h2 : n ≤ 64) (cs : Cs) : opR3 (.int 1) (.int ((n : Int) - 1)) (.int 2) cs = .ok ⟨(List.range ((n - 1) / 2)).map fun i => .int ((2 * i + 1 : Nat) : Int), fun _ => true⟩ cs := by
  obtain ⟨_, _, a, b⟩ := r3_fact n (by omega) h1
  show (if _ then M.ret _ else M.no) cs = _
  rw [if_pos a, b]
  unfold rngC
  have : ((List.range ((n - 1) / 2)).map fun i => D.int ((1 : Int) + (i : Nat) * 2)) = (List.range ((n - 1) / 2)).map fun i => D.int ((2 * i + 1 : Nat) : Int) := List.map_congr_left fun i _ => congrArg D.int (by omega)
  rw [this]
  rfl
theorem e_itR3 (a b c : En → M D) (env : En) (cs : Cs) : itR3 a b c env cs = @kk _ _ (a env cs) fun x cs => @kk _ _ (b env cs) fun y cs => @kk _ _ (c env cs) fun z cs => opR3 x y z cs := by
  show M.bnd (a env) _ cs = _
  rw [bnd_kk]
  refine kk_c fun x cs => ?_
  rw [bnd_kk]
  refine kk_c fun y cs => ?_
  rw [bnd_kk]
theorem lay_nil (L : List (Nat × Nat)) (cs : Cs) : opEq true (layN L) (.lst []) cs = .ok (.bl (decide (L = []))) cs := by
  have o2 : okD 2 (.lst []) = true := rfl
  have e1 : py cs (layN L) = some (pyL (L.map zz)) := by
    show (pyGL _ (layD (L.map zz))).map PyData.list = _
    rw [pyGL_lay]
    rfl
  have e2 : py cs (layN L) = some (pyD (layN L)) := (okD_py 2 _ (okD_layN L)).1 _
  have e3 : pyD (layN L) = pyL (L.map zz) := Option.some.inj (e2.symm.trans e1)
  have e4 : pyD (.lst []) = pyL [] := Option.some.inj (((okD_py 2 _ o2).1 (pyN cs 2)).symm.trans (rfl : _ = some (pyL [])))
  rw [eq_ok (okD_layN L) o2 (by decide) (by decide), e3, e4, if_pos rfl, eqv_pyL]
  cases L with
  | nil => rfl
  | cons p L => rw [decide_eq_false (fun z => nomatch z), decide_eq_false (fun z => nomatch z)]
theorem odd_64 {N : NatNet} (h : ∀ L ∈ N, L.length ≤ 64) : ∀ L ∈ N.map oddL, L.length ≤ 64 := fun L hL => by
  obtain ⟨K, hK, rfl⟩ := List.mem_map.mp hL
  unfold oddL
  rw [List.length_map]
  exact h K hK
theorem pa_ok {n : Nat} {I : NatNet} (h1 : 2 ≤ n) (h2 : n ≤ 64) (lI : I.length ≤ 200) (hI : ∀ L ∈ I, L.length ≤ 64) (V : Valid (n / 2) I) : f_pairs_around [.int (n : Nat), netD (natN I)] = .ok (netD (natN (aroN n I))) := by
  rw [F_pairs_around]
  unfold c_pairs_around
  have m0 : m_pairs_around_0 [some (.int (n : Nat)), some (netD (natN I)), none, none, none, none, none, none, none] [] = .ok (layN (firstP n)) [] := by
    unfold m_pairs_around_0
    rw [lc_lay (xs := List.range (n / 2)) (i := fun i => .int ((2 * i : Nat) : Int)) (live := fun _ => true) (fun i => (2 * i, 2 * i + 1)) (by simp -implicitDefEqProofs only [↓G.e_seq, ↓G.e_skip, ↓G.e_asg, ↓G.e_drop, ↓G.e_ret, ↓G.e_raise, ↓G.e_raiseN, ↓G.e_if, ↓G.e_val, ↓G.e_not, ↓G.e_or, ↓G.e_and, ↓G.e_xand, ↓G.e_xor, ↓G.e_xnot, ↓G.e_var, ↓G.e_c, ↓G.e_bin, ↓G.e_un, ↓G.e_chain, ↓G.e_nil, ↓G.e_cons, ↓G.e_tup, ↓G.e_lst, ↓G.e_call, ↓G.e_callM, ↓G.e_callP, ↓G.e_callO, ↓G.e_for, ↓G.e_itSeq, ↓G.e_itTup, ↓G.e_itR1, ↓G.e_itR2, G.kk_ok, G.kk_ex, G.kF_nx, G.kF_rt, G.kF_ex, G.kI_t, G.kI_f, G.kT_nm, G.kT_tp2, G.kT_ex, G.kB_bl, G.kV_some, G.kO_some, G.kFor_ok, G.nX_n, G.nX_i, G.vB_bl, G.vT_t, G.kP_rt, G.kP_nx, G.kP_ex, G.kQ_some, G.kM_rt, G.kM_nx, G.kM_ex, G.kPO_ex, G.res_bl, G.res_int, G.res_str, G.res_non, G.thr_e, G.ret_e, G.up_ok, G.up_ex, G.upO_ok, G.upO_ex, G.mkL_t, G.mkL_n, G.o_sub, G.o_lt, G.o_le, G.o_gt, G.o_ge, G.o_add, G.o_neg, G.o_isN, G.o_isNI, G.o_isNT, G.o_isNL, G.o_isNR, G.o_isNB, G.o_isNS, G.o_is, G.o_ixT, G.o_ixL, G.o_ixS, G.at_0, G.at_1, G.o_lenL, G.o_lenT, G.o_lenC, G.o_lenS, G.o_max2, G.o_min2, G.o_intB, G.o_intI, G.o_listL, G.o_listT, G.o_listC, G.o_tupL, G.o_eqIt, G.o_eqIf, G.seq_lst, G.seq_scr, G.seq_ref, G.noRL_nil, G.noRL_cons, G.noR_non, G.noR_bl, G.noR_int, G.noR_str, G.noR_dic, G.noR_scr, G.noR_tup, G.noR_lst, G.isd_int, G.isd_intb, G.isd_bool, G.isd_boolb, G.isd_tup, G.isd_lst, G.isd_ref, G.live_lst, G.tgS_nm, G.tgS_tp2, List.getElem?_cons_zero, List.getElem?_cons_succ, List.set_cons_zero, List.set_cons_succ, List.length_cons, List.length_nil, List.nil_append, List.cons_append, Bool.and_true, Bool.true_and, Bool.and_self, Bool.not_true, Bool.not_false, decide_true, decide_false, Nat.reduceAdd, Int.reduceAdd, Int.reduceSub, Int.reduceMul, Int.reduceNeg, Int.cast_ofNat_Int, Int.natCast_zero, Int.natCast_one, eq_self, Int.reduceEq, Int.reduceLT, Int.reduceLE, e_itR3, r3_0 h1 h2]) rfl (by simp; omega) fun x hx => ⟨_, rfl, by
      unfold e_pairs_around_0
      simp -implicitDefEqProofs only [↓G.e_seq, ↓G.e_skip, ↓G.e_asg, ↓G.e_drop, ↓G.e_ret, ↓G.e_raise, ↓G.e_raiseN, ↓G.e_if, ↓G.e_val, ↓G.e_not, ↓G.e_or, ↓G.e_and, ↓G.e_xand, ↓G.e_xor, ↓G.e_xnot, ↓G.e_var, ↓G.e_c, ↓G.e_bin, ↓G.e_un, ↓G.e_chain, ↓G.e_nil, ↓G.e_cons, ↓G.e_tup, ↓G.e_lst, ↓G.e_call, ↓G.e_callM, ↓G.e_callP, ↓G.e_callO, ↓G.e_for, ↓G.e_itSeq, ↓G.e_itTup, ↓G.e_itR1, ↓G.e_itR2, G.kk_ok, G.kk_ex, G.kF_nx, G.kF_rt, G.kF_ex, G.kI_t, G.kI_f, G.kT_nm, G.kT_tp2, G.kT_ex, G.kB_bl, G.kV_some, G.kO_some, G.kFor_ok, G.nX_n, G.nX_i, G.vB_bl, G.vT_t, G.kP_rt, G.kP_nx, G.kP_ex, G.kQ_some, G.kM_rt, G.kM_nx, G.kM_ex, G.kPO_ex, G.res_bl, G.res_int, G.res_str, G.res_non, G.thr_e, G.ret_e, G.up_ok, G.up_ex, G.upO_ok, G.upO_ex, G.mkL_t, G.mkL_n, G.o_sub, G.o_lt, G.o_le, G.o_gt, G.o_ge, G.o_add, G.o_neg, G.o_isN, G.o_isNI, G.o_isNT, G.o_isNL, G.o_isNR, G.o_isNB, G.o_isNS, G.o_is, G.o_ixT, G.o_ixL, G.o_ixS, G.at_0, G.at_1, G.o_lenL, G.o_lenT, G.o_lenC, G.o_lenS, G.o_max2, G.o_min2, G.o_intB, G.o_intI, G.o_listL, G.o_listT, G.o_listC, G.o_tupL, G.o_eqIt, G.o_eqIf, G.seq_lst, G.seq_scr, G.seq_ref, G.noRL_nil, G.noRL_cons, G.noR_non, G.noR_bl, G.noR_int, G.noR_str, G.noR_dic, G.noR_scr, G.noR_tup, G.noR_lst, G.isd_int, G.isd_intb, G.isd_bool, G.isd_boolb, G.isd_tup, G.isd_lst, G.isd_ref, G.live_lst, G.tgS_nm, G.tgS_tp2, List.getElem?_cons_zero, List.getElem?_cons_succ, List.set_cons_zero, List.set_cons_succ, List.length_cons, List.length_nil, List.nil_append, List.cons_append, Bool.and_true, Bool.true_and, Bool.and_self, Bool.not_true, Bool.not_false, decide_true, decide_false, Nat.reduceAdd, Int.reduceAdd, Int.reduceSub, Int.reduceMul, Int.reduceNeg, Int.cast_ofNat_Int, Int.natCast_zero, Int.natCast_one, eq_self, Int.reduceEq, Int.reduceLT, Int.reduceLE, G.wip_nil, G.wip_cons, Nat.reduceLeDiff, ↓G.e_sl, ↓G.e_pNo, ↓G.e_pSome, G.vI_i, ↓G.e_fgo_cons, ↓G.e_fgo_nil, G.kL_nx, G.kL_rt, G.kL_ex, G.kS_some, szOk_small, Nat.reduceLeDiff]
      rfl⟩]
    rfl
  have m2 : m_pairs_around_2 [some (.int (n : Nat)), some (netD (natN I)), some (layN (firstP n)), none, none, none, none, none, none] [] = .ok (netD (natN (I.map oddL))) [] := by
    rw [netD_N]
    unfold m_pairs_around_2
    rw [lc_any (xs := I) (i := layN) (o := fun L => layN (oddL L)) (live := liveOf (I.map layN) (.lst (I.map layN))) (by simp -implicitDefEqProofs only [↓G.e_seq, ↓G.e_skip, ↓G.e_asg, ↓G.e_drop, ↓G.e_ret, ↓G.e_raise, ↓G.e_raiseN, ↓G.e_if, ↓G.e_val, ↓G.e_not, ↓G.e_or, ↓G.e_and, ↓G.e_xand, ↓G.e_xor, ↓G.e_xnot, ↓G.e_var, ↓G.e_c, ↓G.e_bin, ↓G.e_un, ↓G.e_chain, ↓G.e_nil, ↓G.e_cons, ↓G.e_tup, ↓G.e_lst, ↓G.e_call, ↓G.e_callM, ↓G.e_callP, ↓G.e_callO, ↓G.e_for, ↓G.e_itSeq, ↓G.e_itTup, ↓G.e_itR1, ↓G.e_itR2, G.kk_ok, G.kk_ex, G.kF_nx, G.kF_rt, G.kF_ex, G.kI_t, G.kI_f, G.kT_nm, G.kT_tp2, G.kT_ex, G.kB_bl, G.kV_some, G.kO_some, G.kFor_ok, G.nX_n, G.nX_i, G.vB_bl, G.vT_t, G.kP_rt, G.kP_nx, G.kP_ex, G.kQ_some, G.kM_rt, G.kM_nx, G.kM_ex, G.kPO_ex, G.res_bl, G.res_int, G.res_str, G.res_non, G.thr_e, G.ret_e, G.up_ok, G.up_ex, G.upO_ok, G.upO_ex, G.mkL_t, G.mkL_n, G.o_sub, G.o_lt, G.o_le, G.o_gt, G.o_ge, G.o_add, G.o_neg, G.o_isN, G.o_isNI, G.o_isNT, G.o_isNL, G.o_isNR, G.o_isNB, G.o_isNS, G.o_is, G.o_ixT, G.o_ixL, G.o_ixS, G.at_0, G.at_1, G.o_lenL, G.o_lenT, G.o_lenC, G.o_lenS, G.o_max2, G.o_min2, G.o_intB, G.o_intI, G.o_listL, G.o_listT, G.o_listC, G.o_tupL, G.o_eqIt, G.o_eqIf, G.seq_lst, G.seq_scr, G.seq_ref, G.noRL_nil, G.noRL_cons, G.noR_non, G.noR_bl, G.noR_int, G.noR_str, G.noR_dic, G.noR_scr, G.noR_tup, G.noR_lst, G.isd_int, G.isd_intb, G.isd_bool, G.isd_boolb, G.isd_tup, G.isd_lst, G.isd_ref, G.live_lst, G.tgS_nm, G.tgS_tp2, List.getElem?_cons_zero, List.getElem?_cons_succ, List.set_cons_zero, List.set_cons_succ, List.length_cons, List.length_nil, List.nil_append, List.cons_append, Bool.and_true, Bool.true_and, Bool.and_self, Bool.not_true, Bool.not_false, decide_true, decide_false, Nat.reduceAdd, Int.reduceAdd, Int.reduceSub, Int.reduceMul, Int.reduceNeg, Int.cast_ofNat_Int, Int.natCast_zero, Int.natCast_one, eq_self, Int.reduceEq, Int.reduceLT, Int.reduceLE]) rfl (by omega) fun L hL => ⟨_, rfl, by
      have hLl := hI L hL
      show m_pairs_around_1 _ _ = _
      unfold m_pairs_around_1
      rw [lc_lay (xs := L) (i := fun p => .tup [.int (p.1 : Nat), .int (p.2 : Nat)]) (live := liveOf (layD (L.map zz)) (layN L)) (fun p => (2 * p.1 + 1, 2 * p.2 + 1)) (by rw [← layD_f]; simp -implicitDefEqProofs only [↓G.e_seq, ↓G.e_skip, ↓G.e_asg, ↓G.e_drop, ↓G.e_ret, ↓G.e_raise, ↓G.e_raiseN, ↓G.e_if, ↓G.e_val, ↓G.e_not, ↓G.e_or, ↓G.e_and, ↓G.e_xand, ↓G.e_xor, ↓G.e_xnot, ↓G.e_var, ↓G.e_c, ↓G.e_bin, ↓G.e_un, ↓G.e_chain, ↓G.e_nil, ↓G.e_cons, ↓G.e_tup, ↓G.e_lst, ↓G.e_call, ↓G.e_callM, ↓G.e_callP, ↓G.e_callO, ↓G.e_for, ↓G.e_itSeq, ↓G.e_itTup, ↓G.e_itR1, ↓G.e_itR2, G.kk_ok, G.kk_ex, G.kF_nx, G.kF_rt, G.kF_ex, G.kI_t, G.kI_f, G.kT_nm, G.kT_tp2, G.kT_ex, G.kB_bl, G.kV_some, G.kO_some, G.kFor_ok, G.nX_n, G.nX_i, G.vB_bl, G.vT_t, G.kP_rt, G.kP_nx, G.kP_ex, G.kQ_some, G.kM_rt, G.kM_nx, G.kM_ex, G.kPO_ex, G.res_bl, G.res_int, G.res_str, G.res_non, G.thr_e, G.ret_e, G.up_ok, G.up_ex, G.upO_ok, G.upO_ex, G.mkL_t, G.mkL_n, G.o_sub, G.o_lt, G.o_le, G.o_gt, G.o_ge, G.o_add, G.o_neg, G.o_isN, G.o_isNI, G.o_isNT, G.o_isNL, G.o_isNR, G.o_isNB, G.o_isNS, G.o_is, G.o_ixT, G.o_ixL, G.o_ixS, G.at_0, G.at_1, G.o_lenL, G.o_lenT, G.o_lenC, G.o_lenS, G.o_max2, G.o_min2, G.o_intB, G.o_intI, G.o_listL, G.o_listT, G.o_listC, G.o_tupL, G.o_eqIt, G.o_eqIf, G.seq_lst, G.seq_scr, G.seq_ref, G.noRL_nil, G.noRL_cons, G.noR_non, G.noR_bl, G.noR_int, G.noR_str, G.noR_dic, G.noR_scr, G.noR_tup, G.noR_lst, G.isd_int, G.isd_intb, G.isd_bool, G.isd_boolb, G.isd_tup, G.isd_lst, G.isd_ref, G.live_lst, G.tgS_nm, G.tgS_tp2, List.getElem?_cons_zero, List.getElem?_cons_succ, List.set_cons_zero, List.set_cons_succ, List.length_cons, List.length_nil, List.nil_append, List.cons_append, Bool.and_true, Bool.true_and, Bool.and_self, Bool.not_true, Bool.not_false, decide_true, decide_false, Nat.reduceAdd, Int.reduceAdd, Int.reduceSub, Int.reduceMul, Int.reduceNeg, Int.cast_ofNat_Int, Int.natCast_zero, Int.natCast_one, eq_self, Int.reduceEq, Int.reduceLT, Int.reduceLE, G.wip_nil, G.wip_cons, Nat.reduceLeDiff, ↓G.e_sl, ↓G.e_pNo, ↓G.e_pSome, G.vI_i, ↓G.e_fgo_cons, ↓G.e_fgo_nil, G.kL_nx, G.kL_rt, G.kL_ex, G.kS_some, layN]) rfl (by omega) fun p hp => ⟨_, rfl, by
        have r := V.rg L hL p hp
        unfold e_pairs_around_1
        simp -implicitDefEqProofs only [↓G.e_seq, ↓G.e_skip, ↓G.e_asg, ↓G.e_drop, ↓G.e_ret, ↓G.e_raise, ↓G.e_raiseN, ↓G.e_if, ↓G.e_val, ↓G.e_not, ↓G.e_or, ↓G.e_and, ↓G.e_xand, ↓G.e_xor, ↓G.e_xnot, ↓G.e_var, ↓G.e_c, ↓G.e_bin, ↓G.e_un, ↓G.e_chain, ↓G.e_nil, ↓G.e_cons, ↓G.e_tup, ↓G.e_lst, ↓G.e_call, ↓G.e_callM, ↓G.e_callP, ↓G.e_callO, ↓G.e_for, ↓G.e_itSeq, ↓G.e_itTup, ↓G.e_itR1, ↓G.e_itR2, G.kk_ok, G.kk_ex, G.kF_nx, G.kF_rt, G.kF_ex, G.kI_t, G.kI_f, G.kT_nm, G.kT_tp2, G.kT_ex, G.kB_bl, G.kV_some, G.kO_some, G.kFor_ok, G.nX_n, G.nX_i, G.vB_bl, G.vT_t, G.kP_rt, G.kP_nx, G.kP_ex, G.kQ_some, G.kM_rt, G.kM_nx, G.kM_ex, G.kPO_ex, G.res_bl, G.res_int, G.res_str, G.res_non, G.thr_e, G.ret_e, G.up_ok, G.up_ex, G.upO_ok, G.upO_ex, G.mkL_t, G.mkL_n, G.o_sub, G.o_lt, G.o_le, G.o_gt, G.o_ge, G.o_add, G.o_neg, G.o_isN, G.o_isNI, G.o_isNT, G.o_isNL, G.o_isNR, G.o_isNB, G.o_isNS, G.o_is, G.o_ixT, G.o_ixL, G.o_ixS, G.at_0, G.at_1, G.o_lenL, G.o_lenT, G.o_lenC, G.o_lenS, G.o_max2, G.o_min2, G.o_intB, G.o_intI, G.o_listL, G.o_listT, G.o_listC, G.o_tupL, G.o_eqIt, G.o_eqIf, G.seq_lst, G.seq_scr, G.seq_ref, G.noRL_nil, G.noRL_cons, G.noR_non, G.noR_bl, G.noR_int, G.noR_str, G.noR_dic, G.noR_scr, G.noR_tup, G.noR_lst, G.isd_int, G.isd_intb, G.isd_bool, G.isd_boolb, G.isd_tup, G.isd_lst, G.isd_ref, G.live_lst, G.tgS_nm, G.tgS_tp2, List.getElem?_cons_zero, List.getElem?_cons_succ, List.set_cons_zero, List.set_cons_succ, List.length_cons, List.length_nil, List.nil_append, List.cons_append, Bool.and_true, Bool.true_and, Bool.and_self, Bool.not_true, Bool.not_false, decide_true, decide_false, Nat.reduceAdd, Int.reduceAdd, Int.reduceSub, Int.reduceMul, Int.reduceNeg, Int.cast_ofNat_Int, Int.natCast_zero, Int.natCast_one, eq_self, Int.reduceEq, Int.reduceLT, Int.reduceLE, G.wip_nil, G.wip_cons, Nat.reduceLeDiff, ↓G.e_sl, ↓G.e_pNo, ↓G.e_pSome, G.vI_i, ↓G.e_fgo_cons, ↓G.e_fgo_nil, G.kL_nx, G.kL_rt, G.kL_ex, G.kS_some, szOk_small, Nat.reduceLeDiff, o_mulX (c := false) (i := 2) (j := (p.1 : Int)) (by omega) (by omega), o_mulX (c := false) (i := 2) (j := (p.2 : Int)) (by omega) (by omega)]
        rfl⟩]
      rfl⟩, netD_N, List.map_map]
    rfl
  have m3 : m_pairs_around_3 [some (.int (n : Nat)), some (netD (natN I)), some (layN (firstP n)), some (netD (natN (I.map oddL))), none, none, none, none, none] [] = .ok (layN (lastP n)) [] := by
    unfold m_pairs_around_3
    rw [lc_lay (xs := List.range ((n - 1) / 2)) (i := fun i => .int ((2 * i + 1 : Nat) : Int)) (live := fun _ => true) (fun i => (2 * i + 1, 2 * i + 2)) (by simp -implicitDefEqProofs only [↓G.e_seq, ↓G.e_skip, ↓G.e_asg, ↓G.e_drop, ↓G.e_ret, ↓G.e_raise, ↓G.e_raiseN, ↓G.e_if, ↓G.e_val, ↓G.e_not, ↓G.e_or, ↓G.e_and, ↓G.e_xand, ↓G.e_xor, ↓G.e_xnot, ↓G.e_var, ↓G.e_c, ↓G.e_bin, ↓G.e_un, ↓G.e_chain, ↓G.e_nil, ↓G.e_cons, ↓G.e_tup, ↓G.e_lst, ↓G.e_call, ↓G.e_callM, ↓G.e_callP, ↓G.e_callO, ↓G.e_for, ↓G.e_itSeq, ↓G.e_itTup, ↓G.e_itR1, ↓G.e_itR2, G.kk_ok, G.kk_ex, G.kF_nx, G.kF_rt, G.kF_ex, G.kI_t, G.kI_f, G.kT_nm, G.kT_tp2, G.kT_ex, G.kB_bl, G.kV_some, G.kO_some, G.kFor_ok, G.nX_n, G.nX_i, G.vB_bl, G.vT_t, G.kP_rt, G.kP_nx, G.kP_ex, G.kQ_some, G.kM_rt, G.kM_nx, G.kM_ex, G.kPO_ex, G.res_bl, G.res_int, G.res_str, G.res_non, G.thr_e, G.ret_e, G.up_ok, G.up_ex, G.upO_ok, G.upO_ex, G.mkL_t, G.mkL_n, G.o_sub, G.o_lt, G.o_le, G.o_gt, G.o_ge, G.o_add, G.o_neg, G.o_isN, G.o_isNI, G.o_isNT, G.o_isNL, G.o_isNR, G.o_isNB, G.o_isNS, G.o_is, G.o_ixT, G.o_ixL, G.o_ixS, G.at_0, G.at_1, G.o_lenL, G.o_lenT, G.o_lenC, G.o_lenS, G.o_max2, G.o_min2, G.o_intB, G.o_intI, G.o_listL, G.o_listT, G.o_listC, G.o_tupL, G.o_eqIt, G.o_eqIf, G.seq_lst, G.seq_scr, G.seq_ref, G.noRL_nil, G.noRL_cons, G.noR_non, G.noR_bl, G.noR_int, G.noR_str, G.noR_dic, G.noR_scr, G.noR_tup, G.noR_lst, G.isd_int, G.isd_intb, G.isd_bool, G.isd_boolb, G.isd_tup, G.isd_lst, G.isd_ref, G.live_lst, G.tgS_nm, G.tgS_tp2, List.getElem?_cons_zero, List.getElem?_cons_succ, List.set_cons_zero, List.set_cons_succ, List.length_cons, List.length_nil, List.nil_append, List.cons_append, Bool.and_true, Bool.true_and, Bool.and_self, Bool.not_true, Bool.not_false, decide_true, decide_false, Nat.reduceAdd, Int.reduceAdd, Int.reduceSub, Int.reduceMul, Int.reduceNeg, Int.cast_ofNat_Int, Int.natCast_zero, Int.natCast_one, eq_self, Int.reduceEq, Int.reduceLT, Int.reduceLE, e_itR3, r3_1 h1 h2]) rfl (by simp; omega) fun x hx => ⟨_, rfl, by
      unfold e_pairs_around_3
      simp -implicitDefEqProofs only [↓G.e_seq, ↓G.e_skip, ↓G.e_asg, ↓G.e_drop, ↓G.e_ret, ↓G.e_raise, ↓G.e_raiseN, ↓G.e_if, ↓G.e_val, ↓G.e_not, ↓G.e_or, ↓G.e_and, ↓G.e_xand, ↓G.e_xor, ↓G.e_xnot, ↓G.e_var, ↓G.e_c, ↓G.e_bin, ↓G.e_un, ↓G.e_chain, ↓G.e_nil, ↓G.e_cons, ↓G.e_tup, ↓G.e_lst, ↓G.e_call, ↓G.e_callM, ↓G.e_callP, ↓G.e_callO, ↓G.e_for, ↓G.e_itSeq, ↓G.e_itTup, ↓G.e_itR1, ↓G.e_itR2, G.kk_ok, G.kk_ex, G.kF_nx, G.kF_rt, G.kF_ex, G.kI_t, G.kI_f, G.kT_nm, G.kT_tp2, G.kT_ex, G.kB_bl, G.kV_some, G.kO_some, G.kFor_ok, G.nX_n, G.nX_i, G.vB_bl, G.vT_t, G.kP_rt, G.kP_nx, G.kP_ex, G.kQ_some, G.kM_rt, G.kM_nx, G.kM_ex, G.kPO_ex, G.res_bl, G.res_int, G.res_str, G.res_non, G.thr_e, G.ret_e, G.up_ok, G.up_ex, G.upO_ok, G.upO_ex, G.mkL_t, G.mkL_n, G.o_sub, G.o_lt, G.o_le, G.o_gt, G.o_ge, G.o_add, G.o_neg, G.o_isN, G.o_isNI, G.o_isNT, G.o_isNL, G.o_isNR, G.o_isNB, G.o_isNS, G.o_is, G.o_ixT, G.o_ixL, G.o_ixS, G.at_0, G.at_1, G.o_lenL, G.o_lenT, G.o_lenC, G.o_lenS, G.o_max2, G.o_min2, G.o_intB, G.o_intI, G.o_listL, G.o_listT, G.o_listC, G.o_tupL, G.o_eqIt, G.o_eqIf, G.seq_lst, G.seq_scr, G.seq_ref, G.noRL_nil, G.noRL_cons, G.noR_non, G.noR_bl, G.noR_int, G.noR_str, G.noR_dic, G.noR_scr, G.noR_tup, G.noR_lst, G.isd_int, G.isd_intb, G.isd_bool, G.isd_boolb, G.isd_tup, G.isd_lst, G.isd_ref, G.live_lst, G.tgS_nm, G.tgS_tp2, List.getElem?_cons_zero, List.getElem?_cons_succ, List.set_cons_zero, List.set_cons_succ, List.length_cons, List.length_nil, List.nil_append, List.cons_append, Bool.and_true, Bool.true_and, Bool.and_self, Bool.not_true, Bool.not_false, decide_true, decide_false, Nat.reduceAdd, Int.reduceAdd, Int.reduceSub, Int.reduceMul, Int.reduceNeg, Int.cast_ofNat_Int, Int.natCast_zero, Int.natCast_one, eq_self, Int.reduceEq, Int.reduceLT, Int.reduceLE, G.wip_nil, G.wip_cons, Nat.reduceLeDiff, ↓G.e_sl, ↓G.e_pNo, ↓G.e_pSome, G.vI_i, ↓G.e_fgo_cons, ↓G.e_fgo_nil, G.kL_nx, G.kL_rt, G.kL_ex, G.kS_some, szOk_small, Nat.reduceLeDiff]
      rfl⟩]
    rfl
  have ad : ∀ cs, opAdd false (netD (natN [firstP n])) (netD (natN (I.map oddL))) cs = .ok (netD (natN (firstP n :: I.map oddL))) cs := net_add (A := [firstP n]) (B := I.map oddL) (by rw [List.length_map]; simp only [List.length_singleton]; omega)
  have ad2 : ∀ cs, opAdd false (netD (natN (firstP n :: I.map oddL))) (netD (natN [lastP n])) cs = .ok (netD (natN (firstP n :: (I.map oddL ++ [lastP n])))) cs := net_add (A := firstP n :: I.map oddL) (B := [lastP n]) (by rw [List.length_cons, List.length_map]; simp only [List.length_singleton]; omega)
  have q := lay_nil (lastP n) []
  by_cases e : lastP n = []
  · have ea : aroN n I = firstP n :: I.map oddL := by
      unfold aroN
      rw [if_pos e, List.append_nil]
      rfl
    rw [ea]
    rw [decide_eq_true e] at q
    simp -implicitDefEqProofs only [↓G.e_seq, ↓G.e_skip, ↓G.e_asg, ↓G.e_drop, ↓G.e_ret, ↓G.e_raise, ↓G.e_raiseN, ↓G.e_if, ↓G.e_val, ↓G.e_not, ↓G.e_or, ↓G.e_and, ↓G.e_xand, ↓G.e_xor, ↓G.e_xnot, ↓G.e_var, ↓G.e_c, ↓G.e_bin, ↓G.e_un, ↓G.e_chain, ↓G.e_nil, ↓G.e_cons, ↓G.e_tup, ↓G.e_lst, ↓G.e_call, ↓G.e_callM, ↓G.e_callP, ↓G.e_callO, ↓G.e_for, ↓G.e_itSeq, ↓G.e_itTup, ↓G.e_itR1, ↓G.e_itR2, G.kk_ok, G.kk_ex, G.kF_nx, G.kF_rt, G.kF_ex, G.kI_t, G.kI_f, G.kT_nm, G.kT_tp2, G.kT_ex, G.kB_bl, G.kV_some, G.kO_some, G.kFor_ok, G.nX_n, G.nX_i, G.vB_bl, G.vT_t, G.kP_rt, G.kP_nx, G.kP_ex, G.kQ_some, G.kM_rt, G.kM_nx, G.kM_ex, G.kPO_ex, G.res_bl, G.res_int, G.res_str, G.res_non, G.thr_e, G.ret_e, G.up_ok, G.up_ex, G.upO_ok, G.upO_ex, G.mkL_t, G.mkL_n, G.o_sub, G.o_lt, G.o_le, G.o_gt, G.o_ge, G.o_add, G.o_neg, G.o_isN, G.o_isNI, G.o_isNT, G.o_isNL, G.o_isNR, G.o_isNB, G.o_isNS, G.o_is, G.o_ixT, G.o_ixL, G.o_ixS, G.at_0, G.at_1, G.o_lenL, G.o_lenT, G.o_lenC, G.o_lenS, G.o_max2, G.o_min2, G.o_intB, G.o_intI, G.o_listL, G.o_listT, G.o_listC, G.o_tupL, G.o_eqIt, G.o_eqIf, G.seq_lst, G.seq_scr, G.seq_ref, G.noRL_nil, G.noRL_cons, G.noR_non, G.noR_bl, G.noR_int, G.noR_str, G.noR_dic, G.noR_scr, G.noR_tup, G.noR_lst, G.isd_int, G.isd_intb, G.isd_bool, G.isd_boolb, G.isd_tup, G.isd_lst, G.isd_ref, G.live_lst, G.tgS_nm, G.tgS_tp2, List.getElem?_cons_zero, List.getElem?_cons_succ, List.set_cons_zero, List.set_cons_succ, List.length_cons, List.length_nil, List.nil_append, List.cons_append, Bool.and_true, Bool.true_and, Bool.and_self, Bool.not_true, Bool.not_false, decide_true, decide_false, Nat.reduceAdd, Int.reduceAdd, Int.reduceSub, Int.reduceMul, Int.reduceNeg, Int.cast_ofNat_Int, Int.natCast_zero, Int.natCast_one, eq_self, Int.reduceEq, Int.reduceLT, Int.reduceLE, m0, m2, m3, szOk_small, Nat.reduceLeDiff, Nat.zero_le, q, net_one, ad, res_n [] (noR_net (natN (firstP n :: I.map oddL)))]
  · have ea : aroN n I = firstP n :: (I.map oddL ++ [lastP n]) := by
      unfold aroN
      rw [if_neg e]
      rfl
    rw [ea]
    rw [decide_eq_false e] at q
    simp -implicitDefEqProofs only [↓G.e_seq, ↓G.e_skip, ↓G.e_asg, ↓G.e_drop, ↓G.e_ret, ↓G.e_raise, ↓G.e_raiseN, ↓G.e_if, ↓G.e_val, ↓G.e_not, ↓G.e_or, ↓G.e_and, ↓G.e_xand, ↓G.e_xor, ↓G.e_xnot, ↓G.e_var, ↓G.e_c, ↓G.e_bin, ↓G.e_un, ↓G.e_chain, ↓G.e_nil, ↓G.e_cons, ↓G.e_tup, ↓G.e_lst, ↓G.e_call, ↓G.e_callM, ↓G.e_callP, ↓G.e_callO, ↓G.e_for, ↓G.e_itSeq, ↓G.e_itTup, ↓G.e_itR1, ↓G.e_itR2, G.kk_ok, G.kk_ex, G.kF_nx, G.kF_rt, G.kF_ex, G.kI_t, G.kI_f, G.kT_nm, G.kT_tp2, G.kT_ex, G.kB_bl, G.kV_some, G.kO_some, G.kFor_ok, G.nX_n, G.nX_i, G.vB_bl, G.vT_t, G.kP_rt, G.kP_nx, G.kP_ex, G.kQ_some, G.kM_rt, G.kM_nx, G.kM_ex, G.kPO_ex, G.res_bl, G.res_int, G.res_str, G.res_non, G.thr_e, G.ret_e, G.up_ok, G.up_ex, G.upO_ok, G.upO_ex, G.mkL_t, G.mkL_n, G.o_sub, G.o_lt, G.o_le, G.o_gt, G.o_ge, G.o_add, G.o_neg, G.o_isN, G.o_isNI, G.o_isNT, G.o_isNL, G.o_isNR, G.o_isNB, G.o_isNS, G.o_is, G.o_ixT, G.o_ixL, G.o_ixS, G.at_0, G.at_1, G.o_lenL, G.o_lenT, G.o_lenC, G.o_lenS, G.o_max2, G.o_min2, G.o_intB, G.o_intI, G.o_listL, G.o_listT, G.o_listC, G.o_tupL, G.o_eqIt, G.o_eqIf, G.seq_lst, G.seq_scr, G.seq_ref, G.noRL_nil, G.noRL_cons, G.noR_non, G.noR_bl, G.noR_int, G.noR_str, G.noR_dic, G.noR_scr, G.noR_tup, G.noR_lst, G.isd_int, G.isd_intb, G.isd_bool, G.isd_boolb, G.isd_tup, G.isd_lst, G.isd_ref, G.live_lst, G.tgS_nm, G.tgS_tp2, List.getElem?_cons_zero, List.getElem?_cons_succ, List.set_cons_zero, List.set_cons_succ, List.length_cons, List.length_nil, List.nil_append, List.cons_append, Bool.and_true, Bool.true_and, Bool.and_self, Bool.not_true, Bool.not_false, decide_true, decide_false, Nat.reduceAdd, Int.reduceAdd, Int.reduceSub, Int.reduceMul, Int.reduceNeg, Int.cast_ofNat_Int, Int.natCast_zero, Int.natCast_one, eq_self, Int.reduceEq, Int.reduceLT, Int.reduceLE, m0, m2, m3, szOk_small, Nat.reduceLeDiff, Nat.zero_le, q, net_one, ad, ad2, res_n [] (noR_net (natN (firstP n :: (I.map oddL ++ [lastP n]))))]
theorem g_hal : ∀ (k n : Nat), 1 ≤ n → n ≤ 64 → n ≤ 2 ^ k → k ≤ 60 → g_halves_net (k + 1) [.int (n : Nat)] = .ok (netD (natN (halN k n)))
  | 0, n, h1, h2, h3, hk => by
    have e : n = 1 := by simp at h3; omega
    subst e
    show runP (c_halves_net _) 2 _ = _
    rw [e_runP]
    unfold c_halves_net
    have z : ((1 : Nat) : Int) = 1 := rfl
    simp -implicitDefEqProofs only [↓G.e_seq, ↓G.e_skip, ↓G.e_asg, ↓G.e_drop, ↓G.e_ret, ↓G.e_raise, ↓G.e_raiseN, ↓G.e_if, ↓G.e_val, ↓G.e_not, ↓G.e_or, ↓G.e_and, ↓G.e_xand, ↓G.e_xor, ↓G.e_xnot, ↓G.e_var, ↓G.e_c, ↓G.e_bin, ↓G.e_un, ↓G.e_chain, ↓G.e_nil, ↓G.e_cons, ↓G.e_tup, ↓G.e_lst, ↓G.e_call, ↓G.e_callM, ↓G.e_callP, ↓G.e_callO, ↓G.e_for, ↓G.e_itSeq, ↓G.e_itTup, ↓G.e_itR1, ↓G.e_itR2, G.kk_ok, G.kk_ex, G.kF_nx, G.kF_rt, G.kF_ex, G.kI_t, G.kI_f, G.kT_nm, G.kT_tp2, G.kT_ex, G.kB_bl, G.kV_some, G.kO_some, G.kFor_ok, G.nX_n, G.nX_i, G.vB_bl, G.vT_t, G.kP_rt, G.kP_nx, G.kP_ex, G.kQ_some, G.kM_rt, G.kM_nx, G.kM_ex, G.kPO_ex, G.res_bl, G.res_int, G.res_str, G.res_non, G.thr_e, G.ret_e, G.up_ok, G.up_ex, G.upO_ok, G.upO_ex, G.mkL_t, G.mkL_n, G.o_sub, G.o_lt, G.o_le, G.o_gt, G.o_ge, G.o_add, G.o_neg, G.o_isN, G.o_isNI, G.o_isNT, G.o_isNL, G.o_isNR, G.o_isNB, G.o_isNS, G.o_is, G.o_ixT, G.o_ixL, G.o_ixS, G.at_0, G.at_1, G.o_lenL, G.o_lenT, G.o_lenC, G.o_lenS, G.o_max2, G.o_min2, G.o_intB, G.o_intI, G.o_listL, G.o_listT, G.o_listC, G.o_tupL, G.o_eqIt, G.o_eqIf, G.seq_lst, G.seq_scr, G.seq_ref, G.noRL_nil, G.noRL_cons, G.noR_non, G.noR_bl, G.noR_int, G.noR_str, G.noR_dic, G.noR_scr, G.noR_tup, G.noR_lst, G.isd_int, G.isd_intb, G.isd_bool, G.isd_boolb, G.isd_tup, G.isd_lst, G.isd_ref, G.live_lst, G.tgS_nm, G.tgS_tp2, List.getElem?_cons_zero, List.getElem?_cons_succ, List.set_cons_zero, List.set_cons_succ, List.length_cons, List.length_nil, List.nil_append, List.cons_append, Bool.and_true, Bool.true_and, Bool.and_self, Bool.not_true, Bool.not_false, decide_true, decide_false, Nat.reduceAdd, Int.reduceAdd, Int.reduceSub, Int.reduceMul, Int.reduceNeg, Int.cast_ofNat_Int, Int.natCast_zero, Int.natCast_one, eq_self, Int.reduceEq, Int.reduceLT, Int.reduceLE, startE, z, szOk_small, Nat.zero_le]
    rfl
  | k + 1, n, h1, h2, h3, hk => by
    show runP (c_halves_net (g_halves_net (k + 1))) 2 _ = _
    rw [e_runP]
    show kP (c_halves_net (g_halves_net (k + 1)) [some (.int (n : Nat)), none] []) = _
    unfold c_halves_net halN
    by_cases q : n = 1
    · have z : ((n : Int) = 1) ↔ True := by simp only [iff_true]; omega
      rw [if_pos q]
      simp -implicitDefEqProofs only [↓G.e_seq, ↓G.e_skip, ↓G.e_asg, ↓G.e_drop, ↓G.e_ret, ↓G.e_raise, ↓G.e_raiseN, ↓G.e_if, ↓G.e_val, ↓G.e_not, ↓G.e_or, ↓G.e_and, ↓G.e_xand, ↓G.e_xor, ↓G.e_xnot, ↓G.e_var, ↓G.e_c, ↓G.e_bin, ↓G.e_un, ↓G.e_chain, ↓G.e_nil, ↓G.e_cons, ↓G.e_tup, ↓G.e_lst, ↓G.e_call, ↓G.e_callM, ↓G.e_callP, ↓G.e_callO, ↓G.e_for, ↓G.e_itSeq, ↓G.e_itTup, ↓G.e_itR1, ↓G.e_itR2, G.kk_ok, G.kk_ex, G.kF_nx, G.kF_rt, G.kF_ex, G.kI_t, G.kI_f, G.kT_nm, G.kT_tp2, G.kT_ex, G.kB_bl, G.kV_some, G.kO_some, G.kFor_ok, G.nX_n, G.nX_i, G.vB_bl, G.vT_t, G.kP_rt, G.kP_nx, G.kP_ex, G.kQ_some, G.kM_rt, G.kM_nx, G.kM_ex, G.kPO_ex, G.res_bl, G.res_int, G.res_str, G.res_non, G.thr_e, G.ret_e, G.up_ok, G.up_ex, G.upO_ok, G.upO_ex, G.mkL_t, G.mkL_n, G.o_sub, G.o_lt, G.o_le, G.o_gt, G.o_ge, G.o_add, G.o_neg, G.o_isN, G.o_isNI, G.o_isNT, G.o_isNL, G.o_isNR, G.o_isNB, G.o_isNS, G.o_is, G.o_ixT, G.o_ixL, G.o_ixS, G.at_0, G.at_1, G.o_lenL, G.o_lenT, G.o_lenC, G.o_lenS, G.o_max2, G.o_min2, G.o_intB, G.o_intI, G.o_listL, G.o_listT, G.o_listC, G.o_tupL, G.o_eqIt, G.o_eqIf, G.seq_lst, G.seq_scr, G.seq_ref, G.noRL_nil, G.noRL_cons, G.noR_non, G.noR_bl, G.noR_int, G.noR_str, G.noR_dic, G.noR_scr, G.noR_tup, G.noR_lst, G.isd_int, G.isd_intb, G.isd_bool, G.isd_boolb, G.isd_tup, G.isd_lst, G.isd_ref, G.live_lst, G.tgS_nm, G.tgS_tp2, List.getElem?_cons_zero, List.getElem?_cons_succ, List.set_cons_zero, List.set_cons_succ, List.length_cons, List.length_nil, List.nil_append, List.cons_append, Bool.and_true, Bool.true_and, Bool.and_self, Bool.not_true, Bool.not_false, decide_true, decide_false, Nat.reduceAdd, Int.reduceAdd, Int.reduceSub, Int.reduceMul, Int.reduceNeg, Int.cast_ofNat_Int, Int.natCast_zero, Int.natCast_one, eq_self, Int.reduceEq, Int.reduceLT, Int.reduceLE, z, szOk_small, Nat.zero_le]
      rfl
    · have z : ((n : Int) = 1) ↔ False := by simp only [iff_false]; omega
      rw [if_neg q]
      rw [Nat.pow_succ] at h3
      have a := g_hal k (n - n / 2) (by omega) (by omega) (by omega) (by omega)
      have b := g_hal k (n / 2) (by omega) (by omega) (by omega) (by omega)
      have ga := hal_good (k := k) (n := n - n / 2) (by omega) (by omega)
      have gb := hal_good (k := k) (n := n / 2) (by omega) (by omega)
      have la := hal_len k (n - n / 2)
      have lb := hal_len k (n / 2)
      have c1 : (n : Int) - (n : Int) / 2 = ((n - n / 2 : Nat) : Int) := by omega
      have c2 : (n : Int) - ((n - n / 2 : Nat) : Int) = ((n / 2 : Nat) : Int) := by omega
      have p := pb_ok (n := n - n / 2) (m := n / 2) (N := halN k (n - n / 2)) (O := halN k (n / 2)) (by omega) (by omega) (by omega) (by omega) (fun L hL => lay_64' ga.V (by omega) L hL) (fun L hL => lay_64' gb.V (by omega) L hL)
      simp -implicitDefEqProofs only [↓G.e_seq, ↓G.e_skip, ↓G.e_asg, ↓G.e_drop, ↓G.e_ret, ↓G.e_raise, ↓G.e_raiseN, ↓G.e_if, ↓G.e_val, ↓G.e_not, ↓G.e_or, ↓G.e_and, ↓G.e_xand, ↓G.e_xor, ↓G.e_xnot, ↓G.e_var, ↓G.e_c, ↓G.e_bin, ↓G.e_un, ↓G.e_chain, ↓G.e_nil, ↓G.e_cons, ↓G.e_tup, ↓G.e_lst, ↓G.e_call, ↓G.e_callM, ↓G.e_callP, ↓G.e_callO, ↓G.e_for, ↓G.e_itSeq, ↓G.e_itTup, ↓G.e_itR1, ↓G.e_itR2, G.kk_ok, G.kk_ex, G.kF_nx, G.kF_rt, G.kF_ex, G.kI_t, G.kI_f, G.kT_nm, G.kT_tp2, G.kT_ex, G.kB_bl, G.kV_some, G.kO_some, G.kFor_ok, G.nX_n, G.nX_i, G.vB_bl, G.vT_t, G.kP_rt, G.kP_nx, G.kP_ex, G.kQ_some, G.kM_rt, G.kM_nx, G.kM_ex, G.kPO_ex, G.res_bl, G.res_int, G.res_str, G.res_non, G.thr_e, G.ret_e, G.up_ok, G.up_ex, G.upO_ok, G.upO_ex, G.mkL_t, G.mkL_n, G.o_sub, G.o_lt, G.o_le, G.o_gt, G.o_ge, G.o_add, G.o_neg, G.o_isN, G.o_isNI, G.o_isNT, G.o_isNL, G.o_isNR, G.o_isNB, G.o_isNS, G.o_is, G.o_ixT, G.o_ixL, G.o_ixS, G.at_0, G.at_1, G.o_lenL, G.o_lenT, G.o_lenC, G.o_lenS, G.o_max2, G.o_min2, G.o_intB, G.o_intI, G.o_listL, G.o_listT, G.o_listC, G.o_tupL, G.o_eqIt, G.o_eqIf, G.seq_lst, G.seq_scr, G.seq_ref, G.noRL_nil, G.noRL_cons, G.noR_non, G.noR_bl, G.noR_int, G.noR_str, G.noR_dic, G.noR_scr, G.noR_tup, G.noR_lst, G.isd_int, G.isd_intb, G.isd_bool, G.isd_boolb, G.isd_tup, G.isd_lst, G.isd_ref, G.live_lst, G.tgS_nm, G.tgS_tp2, List.getElem?_cons_zero, List.getElem?_cons_succ, List.set_cons_zero, List.set_cons_succ, List.length_cons, List.length_nil, List.nil_append, List.cons_append, Bool.and_true, Bool.true_and, Bool.and_self, Bool.not_true, Bool.not_false, decide_true, decide_false, Nat.reduceAdd, Int.reduceAdd, Int.reduceSub, Int.reduceMul, Int.reduceNeg, Int.cast_ofNat_Int, Int.natCast_zero, Int.natCast_one, eq_self, Int.reduceEq, Int.reduceLT, Int.reduceLE, z, o_div (i := (n : Int)) (j := 2) (by decide) (by decide), c1, a, c2, b, noR_net, p, res_n [] (noR_net (natN (behN (n - n / 2) (n / 2) (halN k (n - n / 2)) (halN k (n / 2)))))]
theorem hal_ok {n : Nat} (h1 : 1 ≤ n) (h2 : n ≤ 64) : f_by_halves [.int (n : Nat)] = .ok (netD (natN (halN 7 n))) := by
  have e : f_halves_net [.int (n : Nat)] = _ := g_hal 7 n h1 h2 (by omega) (by decide)
  rw [F_by_halves]
  unfold c_by_halves
  simp -implicitDefEqProofs only [↓G.e_seq, ↓G.e_skip, ↓G.e_asg, ↓G.e_drop, ↓G.e_ret, ↓G.e_raise, ↓G.e_raiseN, ↓G.e_if, ↓G.e_val, ↓G.e_not, ↓G.e_or, ↓G.e_and, ↓G.e_xand, ↓G.e_xor, ↓G.e_xnot, ↓G.e_var, ↓G.e_c, ↓G.e_bin, ↓G.e_un, ↓G.e_chain, ↓G.e_nil, ↓G.e_cons, ↓G.e_tup, ↓G.e_lst, ↓G.e_call, ↓G.e_callM, ↓G.e_callP, ↓G.e_callO, ↓G.e_for, ↓G.e_itSeq, ↓G.e_itTup, ↓G.e_itR1, ↓G.e_itR2, G.kk_ok, G.kk_ex, G.kF_nx, G.kF_rt, G.kF_ex, G.kI_t, G.kI_f, G.kT_nm, G.kT_tp2, G.kT_ex, G.kB_bl, G.kV_some, G.kO_some, G.kFor_ok, G.nX_n, G.nX_i, G.vB_bl, G.vT_t, G.kP_rt, G.kP_nx, G.kP_ex, G.kQ_some, G.kM_rt, G.kM_nx, G.kM_ex, G.kPO_ex, G.res_bl, G.res_int, G.res_str, G.res_non, G.thr_e, G.ret_e, G.up_ok, G.up_ex, G.upO_ok, G.upO_ex, G.mkL_t, G.mkL_n, G.o_sub, G.o_lt, G.o_le, G.o_gt, G.o_ge, G.o_add, G.o_neg, G.o_isN, G.o_isNI, G.o_isNT, G.o_isNL, G.o_isNR, G.o_isNB, G.o_isNS, G.o_is, G.o_ixT, G.o_ixL, G.o_ixS, G.at_0, G.at_1, G.o_lenL, G.o_lenT, G.o_lenC, G.o_lenS, G.o_max2, G.o_min2, G.o_intB, G.o_intI, G.o_listL, G.o_listT, G.o_listC, G.o_tupL, G.o_eqIt, G.o_eqIf, G.seq_lst, G.seq_scr, G.seq_ref, G.noRL_nil, G.noRL_cons, G.noR_non, G.noR_bl, G.noR_int, G.noR_str, G.noR_dic, G.noR_scr, G.noR_tup, G.noR_lst, G.isd_int, G.isd_intb, G.isd_bool, G.isd_boolb, G.isd_tup, G.isd_lst, G.isd_ref, G.live_lst, G.tgS_nm, G.tgS_tp2, List.getElem?_cons_zero, List.getElem?_cons_succ, List.set_cons_zero, List.set_cons_succ, List.length_cons, List.length_nil, List.nil_append, List.cons_append, Bool.and_true, Bool.true_and, Bool.and_self, Bool.not_true, Bool.not_false, decide_true, decide_false, Nat.reduceAdd, Int.reduceAdd, Int.reduceSub, Int.reduceMul, Int.reduceNeg, Int.cast_ofNat_Int, Int.natCast_zero, Int.natCast_one, eq_self, Int.reduceEq, Int.reduceLT, Int.reduceLE, ml_t h1 h2, e, res_n [] (noR_net (natN (halN 7 n)))]
theorem g_pai : ∀ (k n : Nat), 1 ≤ n → n ≤ 64 → n ≤ 2 ^ k → k ≤ 60 → g_pairs_net (k + 1) [.int (n : Nat)] = .ok (netD (natN (paiN k n)))
  | 0, n, h1, h2, h3, hk => by
    have e : n = 1 := by simp at h3; omega
    subst e
    show runP (c_pairs_net _) 1 _ = _
    rw [e_runP]
    unfold c_pairs_net
    have z : ((1 : Nat) : Int) = 1 := rfl
    simp -implicitDefEqProofs only [↓G.e_seq, ↓G.e_skip, ↓G.e_asg, ↓G.e_drop, ↓G.e_ret, ↓G.e_raise, ↓G.e_raiseN, ↓G.e_if, ↓G.e_val, ↓G.e_not, ↓G.e_or, ↓G.e_and, ↓G.e_xand, ↓G.e_xor, ↓G.e_xnot, ↓G.e_var, ↓G.e_c, ↓G.e_bin, ↓G.e_un, ↓G.e_chain, ↓G.e_nil, ↓G.e_cons, ↓G.e_tup, ↓G.e_lst, ↓G.e_call, ↓G.e_callM, ↓G.e_callP, ↓G.e_callO, ↓G.e_for, ↓G.e_itSeq, ↓G.e_itTup, ↓G.e_itR1, ↓G.e_itR2, G.kk_ok, G.kk_ex, G.kF_nx, G.kF_rt, G.kF_ex, G.kI_t, G.kI_f, G.kT_nm, G.kT_tp2, G.kT_ex, G.kB_bl, G.kV_some, G.kO_some, G.kFor_ok, G.nX_n, G.nX_i, G.vB_bl, G.vT_t, G.kP_rt, G.kP_nx, G.kP_ex, G.kQ_some, G.kM_rt, G.kM_nx, G.kM_ex, G.kPO_ex, G.res_bl, G.res_int, G.res_str, G.res_non, G.thr_e, G.ret_e, G.up_ok, G.up_ex, G.upO_ok, G.upO_ex, G.mkL_t, G.mkL_n, G.o_sub, G.o_lt, G.o_le, G.o_gt, G.o_ge, G.o_add, G.o_neg, G.o_isN, G.o_isNI, G.o_isNT, G.o_isNL, G.o_isNR, G.o_isNB, G.o_isNS, G.o_is, G.o_ixT, G.o_ixL, G.o_ixS, G.at_0, G.at_1, G.o_lenL, G.o_lenT, G.o_lenC, G.o_lenS, G.o_max2, G.o_min2, G.o_intB, G.o_intI, G.o_listL, G.o_listT, G.o_listC, G.o_tupL, G.o_eqIt, G.o_eqIf, G.seq_lst, G.seq_scr, G.seq_ref, G.noRL_nil, G.noRL_cons, G.noR_non, G.noR_bl, G.noR_int, G.noR_str, G.noR_dic, G.noR_scr, G.noR_tup, G.noR_lst, G.isd_int, G.isd_intb, G.isd_bool, G.isd_boolb, G.isd_tup, G.isd_lst, G.isd_ref, G.live_lst, G.tgS_nm, G.tgS_tp2, List.getElem?_cons_zero, List.getElem?_cons_succ, List.set_cons_zero, List.set_cons_succ, List.length_cons, List.length_nil, List.nil_append, List.cons_append, Bool.and_true, Bool.true_and, Bool.and_self, Bool.not_true, Bool.not_false, decide_true, decide_false, Nat.reduceAdd, Int.reduceAdd, Int.reduceSub, Int.reduceMul, Int.reduceNeg, Int.cast_ofNat_Int, Int.natCast_zero, Int.natCast_one, eq_self, Int.reduceEq, Int.reduceLT, Int.reduceLE, startE, z, szOk_small, Nat.zero_le]
    rfl
  | k + 1, n, h1, h2, h3, hk => by
    show runP (c_pairs_net (g_pairs_net (k + 1))) 1 _ = _
    rw [e_runP]
    show kP (c_pairs_net (g_pairs_net (k + 1)) [some (.int (n : Nat))] []) = _
    unfold c_pairs_net paiN
    by_cases q : n = 1
    · have z : ((n : Int) = 1) ↔ True := by simp only [iff_true]; omega
      rw [if_pos q]
      simp -implicitDefEqProofs only [↓G.e_seq, ↓G.e_skip, ↓G.e_asg, ↓G.e_drop, ↓G.e_ret, ↓G.e_raise, ↓G.e_raiseN, ↓G.e_if, ↓G.e_val, ↓G.e_not, ↓G.e_or, ↓G.e_and, ↓G.e_xand, ↓G.e_xor, ↓G.e_xnot, ↓G.e_var, ↓G.e_c, ↓G.e_bin, ↓G.e_un, ↓G.e_chain, ↓G.e_nil, ↓G.e_cons, ↓G.e_tup, ↓G.e_lst, ↓G.e_call, ↓G.e_callM, ↓G.e_callP, ↓G.e_callO, ↓G.e_for, ↓G.e_itSeq, ↓G.e_itTup, ↓G.e_itR1, ↓G.e_itR2, G.kk_ok, G.kk_ex, G.kF_nx, G.kF_rt, G.kF_ex, G.kI_t, G.kI_f, G.kT_nm, G.kT_tp2, G.kT_ex, G.kB_bl, G.kV_some, G.kO_some, G.kFor_ok, G.nX_n, G.nX_i, G.vB_bl, G.vT_t, G.kP_rt, G.kP_nx, G.kP_ex, G.kQ_some, G.kM_rt, G.kM_nx, G.kM_ex, G.kPO_ex, G.res_bl, G.res_int, G.res_str, G.res_non, G.thr_e, G.ret_e, G.up_ok, G.up_ex, G.upO_ok, G.upO_ex, G.mkL_t, G.mkL_n, G.o_sub, G.o_lt, G.o_le, G.o_gt, G.o_ge, G.o_add, G.o_neg, G.o_isN, G.o_isNI, G.o_isNT, G.o_isNL, G.o_isNR, G.o_isNB, G.o_isNS, G.o_is, G.o_ixT, G.o_ixL, G.o_ixS, G.at_0, G.at_1, G.o_lenL, G.o_lenT, G.o_lenC, G.o_lenS, G.o_max2, G.o_min2, G.o_intB, G.o_intI, G.o_listL, G.o_listT, G.o_listC, G.o_tupL, G.o_eqIt, G.o_eqIf, G.seq_lst, G.seq_scr, G.seq_ref, G.noRL_nil, G.noRL_cons, G.noR_non, G.noR_bl, G.noR_int, G.noR_str, G.noR_dic, G.noR_scr, G.noR_tup, G.noR_lst, G.isd_int, G.isd_intb, G.isd_bool, G.isd_boolb, G.isd_tup, G.isd_lst, G.isd_ref, G.live_lst, G.tgS_nm, G.tgS_tp2, List.getElem?_cons_zero, List.getElem?_cons_succ, List.set_cons_zero, List.set_cons_succ, List.length_cons, List.length_nil, List.nil_append, List.cons_append, Bool.and_true, Bool.true_and, Bool.and_self, Bool.not_true, Bool.not_false, decide_true, decide_false, Nat.reduceAdd, Int.reduceAdd, Int.reduceSub, Int.reduceMul, Int.reduceNeg, Int.cast_ofNat_Int, Int.natCast_zero, Int.natCast_one, eq_self, Int.reduceEq, Int.reduceLT, Int.reduceLE, z, szOk_small, Nat.zero_le]
      rfl
    · have z : ((n : Int) = 1) ↔ False := by simp only [iff_false]; omega
      rw [if_neg q]
      rw [Nat.pow_succ] at h3
      have b := g_pai k (n / 2) (by omega) (by omega) (by omega) (by omega)
      have gb := pai_good (k := k) (n := n / 2) (by omega) (by omega)
      have lb := pai_len k (n / 2)
      have c2 : (n : Int) / 2 = ((n / 2 : Nat) : Int) := by omega
      have p := pa_ok (n := n) (I := paiN k (n / 2)) (by omega) h2 (by omega) (fun L hL => lay_64' gb.V (by omega) L hL) gb.V
      simp -implicitDefEqProofs only [↓G.e_seq, ↓G.e_skip, ↓G.e_asg, ↓G.e_drop, ↓G.e_ret, ↓G.e_raise, ↓G.e_raiseN, ↓G.e_if, ↓G.e_val, ↓G.e_not, ↓G.e_or, ↓G.e_and, ↓G.e_xand, ↓G.e_xor, ↓G.e_xnot, ↓G.e_var, ↓G.e_c, ↓G.e_bin, ↓G.e_un, ↓G.e_chain, ↓G.e_nil, ↓G.e_cons, ↓G.e_tup, ↓G.e_lst, ↓G.e_call, ↓G.e_callM, ↓G.e_callP, ↓G.e_callO, ↓G.e_for, ↓G.e_itSeq, ↓G.e_itTup, ↓G.e_itR1, ↓G.e_itR2, G.kk_ok, G.kk_ex, G.kF_nx, G.kF_rt, G.kF_ex, G.kI_t, G.kI_f, G.kT_nm, G.kT_tp2, G.kT_ex, G.kB_bl, G.kV_some, G.kO_some, G.kFor_ok, G.nX_n, G.nX_i, G.vB_bl, G.vT_t, G.kP_rt, G.kP_nx, G.kP_ex, G.kQ_some, G.kM_rt, G.kM_nx, G.kM_ex, G.kPO_ex, G.res_bl, G.res_int, G.res_str, G.res_non, G.thr_e, G.ret_e, G.up_ok, G.up_ex, G.upO_ok, G.upO_ex, G.mkL_t, G.mkL_n, G.o_sub, G.o_lt, G.o_le, G.o_gt, G.o_ge, G.o_add, G.o_neg, G.o_isN, G.o_isNI, G.o_isNT, G.o_isNL, G.o_isNR, G.o_isNB, G.o_isNS, G.o_is, G.o_ixT, G.o_ixL, G.o_ixS, G.at_0, G.at_1, G.o_lenL, G.o_lenT, G.o_lenC, G.o_lenS, G.o_max2, G.o_min2, G.o_intB, G.o_intI, G.o_listL, G.o_listT, G.o_listC, G.o_tupL, G.o_eqIt, G.o_eqIf, G.seq_lst, G.seq_scr, G.seq_ref, G.noRL_nil, G.noRL_cons, G.noR_non, G.noR_bl, G.noR_int, G.noR_str, G.noR_dic, G.noR_scr, G.noR_tup, G.noR_lst, G.isd_int, G.isd_intb, G.isd_bool, G.isd_boolb, G.isd_tup, G.isd_lst, G.isd_ref, G.live_lst, G.tgS_nm, G.tgS_tp2, List.getElem?_cons_zero, List.getElem?_cons_succ, List.set_cons_zero, List.set_cons_succ, List.length_cons, List.length_nil, List.nil_append, List.cons_append, Bool.and_true, Bool.true_and, Bool.and_self, Bool.not_true, Bool.not_false, decide_true, decide_false, Nat.reduceAdd, Int.reduceAdd, Int.reduceSub, Int.reduceMul, Int.reduceNeg, Int.cast_ofNat_Int, Int.natCast_zero, Int.natCast_one, eq_self, Int.reduceEq, Int.reduceLT, Int.reduceLE, z, o_div (i := (n : Int)) (j := 2) (by decide) (by decide), c2, b, noR_net, p, res_n [] (noR_net (natN (aroN n (paiN k (n / 2)))))]
theorem pai_ok {n : Nat} (h1 : 1 ≤ n) (h2 : n ≤ 64) : f_by_pairs [.int (n : Nat)] = .ok (netD (natN (paiN 7 n))) := by
  have e : f_pairs_net [.int (n : Nat)] = _ := g_pai 7 n h1 h2 (by omega) (by decide)
  rw [F_by_pairs]
  unfold c_by_pairs
  simp -implicitDefEqProofs only [↓G.e_seq, ↓G.e_skip, ↓G.e_asg, ↓G.e_drop, ↓G.e_ret, ↓G.e_raise, ↓G.e_raiseN, ↓G.e_if, ↓G.e_val, ↓G.e_not, ↓G.e_or, ↓G.e_and, ↓G.e_xand, ↓G.e_xor, ↓G.e_xnot, ↓G.e_var, ↓G.e_c, ↓G.e_bin, ↓G.e_un, ↓G.e_chain, ↓G.e_nil, ↓G.e_cons, ↓G.e_tup, ↓G.e_lst, ↓G.e_call, ↓G.e_callM, ↓G.e_callP, ↓G.e_callO, ↓G.e_for, ↓G.e_itSeq, ↓G.e_itTup, ↓G.e_itR1, ↓G.e_itR2, G.kk_ok, G.kk_ex, G.kF_nx, G.kF_rt, G.kF_ex, G.kI_t, G.kI_f, G.kT_nm, G.kT_tp2, G.kT_ex, G.kB_bl, G.kV_some, G.kO_some, G.kFor_ok, G.nX_n, G.nX_i, G.vB_bl, G.vT_t, G.kP_rt, G.kP_nx, G.kP_ex, G.kQ_some, G.kM_rt, G.kM_nx, G.kM_ex, G.kPO_ex, G.res_bl, G.res_int, G.res_str, G.res_non, G.thr_e, G.ret_e, G.up_ok, G.up_ex, G.upO_ok, G.upO_ex, G.mkL_t, G.mkL_n, G.o_sub, G.o_lt, G.o_le, G.o_gt, G.o_ge, G.o_add, G.o_neg, G.o_isN, G.o_isNI, G.o_isNT, G.o_isNL, G.o_isNR, G.o_isNB, G.o_isNS, G.o_is, G.o_ixT, G.o_ixL, G.o_ixS, G.at_0, G.at_1, G.o_lenL, G.o_lenT, G.o_lenC, G.o_lenS, G.o_max2, G.o_min2, G.o_intB, G.o_intI, G.o_listL, G.o_listT, G.o_listC, G.o_tupL, G.o_eqIt, G.o_eqIf, G.seq_lst, G.seq_scr, G.seq_ref, G.noRL_nil, G.noRL_cons, G.noR_non, G.noR_bl, G.noR_int, G.noR_str, G.noR_dic, G.noR_scr, G.noR_tup, G.noR_lst, G.isd_int, G.isd_intb, G.isd_bool, G.isd_boolb, G.isd_tup, G.isd_lst, G.isd_ref, G.live_lst, G.tgS_nm, G.tgS_tp2, List.getElem?_cons_zero, List.getElem?_cons_succ, List.set_cons_zero, List.set_cons_succ, List.length_cons, List.length_nil, List.nil_append, List.cons_append, Bool.and_true, Bool.true_and, Bool.and_self, Bool.not_true, Bool.not_false, decide_true, decide_false, Nat.reduceAdd, Int.reduceAdd, Int.reduceSub, Int.reduceMul, Int.reduceNeg, Int.cast_ofNat_Int, Int.natCast_zero, Int.natCast_one, eq_self, Int.reduceEq, Int.reduceLT, Int.reduceLE, ml_t h1 h2, e, res_n [] (noR_net (natN (paiN 7 n)))]
end LK
namespace LK
open L2 G PySem PySem.Spec PyProof.Rows
theorem mnet_t {n : Nat} {N : NatNet} (V : Valid n N) (h1 : 1 ≤ n) (h2 : n ≤ 64) (hl : N.length ≤ 80) : f_need_net [.int (n : Nat), netD (natN N)] = .ok .non := by
  have ly := net_t V hl
  rw [F_need_net]
  unfold c_need_net
  simp -implicitDefEqProofs only [↓G.e_seq, ↓G.e_skip, ↓G.e_asg, ↓G.e_drop, ↓G.e_ret, ↓G.e_raise, ↓G.e_raiseN, ↓G.e_if, ↓G.e_val, ↓G.e_not, ↓G.e_or, ↓G.e_and, ↓G.e_xand, ↓G.e_xor, ↓G.e_xnot, ↓G.e_var, ↓G.e_c, ↓G.e_bin, ↓G.e_un, ↓G.e_chain, ↓G.e_nil, ↓G.e_cons, ↓G.e_tup, ↓G.e_lst, ↓G.e_call, ↓G.e_callM, ↓G.e_callP, ↓G.e_callO, ↓G.e_for, ↓G.e_itSeq, ↓G.e_itTup, ↓G.e_itR1, ↓G.e_itR2, G.kk_ok, G.kk_ex, G.kF_nx, G.kF_rt, G.kF_ex, G.kI_t, G.kI_f, G.kT_nm, G.kT_tp2, G.kT_ex, G.kB_bl, G.kV_some, G.kO_some, G.kFor_ok, G.nX_n, G.nX_i, G.vB_bl, G.vT_t, G.kP_rt, G.kP_nx, G.kP_ex, G.kQ_some, G.kM_rt, G.kM_nx, G.kM_ex, G.kPO_ex, G.res_bl, G.res_int, G.res_str, G.res_non, G.thr_e, G.ret_e, G.up_ok, G.up_ex, G.upO_ok, G.upO_ex, G.mkL_t, G.mkL_n, G.o_sub, G.o_lt, G.o_le, G.o_gt, G.o_ge, G.o_add, G.o_neg, G.o_isN, G.o_isNI, G.o_isNT, G.o_isNL, G.o_isNR, G.o_isNB, G.o_isNS, G.o_is, G.o_ixT, G.o_ixL, G.o_ixS, G.at_0, G.at_1, G.o_lenL, G.o_lenT, G.o_lenC, G.o_lenS, G.o_max2, G.o_min2, G.o_intB, G.o_intI, G.o_listL, G.o_listT, G.o_listC, G.o_tupL, G.o_eqIt, G.o_eqIf, G.seq_lst, G.seq_scr, G.seq_ref, G.noRL_nil, G.noRL_cons, G.noR_non, G.noR_bl, G.noR_int, G.noR_str, G.noR_dic, G.noR_scr, G.noR_tup, G.noR_lst, G.isd_int, G.isd_intb, G.isd_bool, G.isd_boolb, G.isd_tup, G.isd_lst, G.isd_ref, G.live_lst, G.tgS_nm, G.tgS_tp2, List.getElem?_cons_zero, List.getElem?_cons_succ, List.set_cons_zero, List.set_cons_succ, List.length_cons, List.length_nil, List.nil_append, List.cons_append, Bool.and_true, Bool.true_and, Bool.and_self, Bool.not_true, Bool.not_false, decide_true, decide_false, Nat.reduceAdd, Int.reduceAdd, Int.reduceSub, Int.reduceMul, Int.reduceNeg, Int.cast_ofNat_Int, Int.natCast_zero, Int.natCast_one, eq_self, Int.reduceEq, Int.reduceLT, Int.reduceLE, ml_t h1 h2, noR_net, ly]
theorem bside_ok {n m : Nat} {N O : NatNet} (V : Valid n N) (W : Valid m O) (h1 : 1 ≤ n) (h2 : 1 ≤ m) (h3 : n + m ≤ 64) (lN : N.length ≤ 79) (lO : O.length ≤ 79) : f_beside [.int (n : Nat), netD (natN N), .int (m : Nat), netD (natN O)] = .ok (netD (natN (behN n m N O))) := by
  have a := mnet_t V h1 (by omega) (by omega)
  have b := mnet_t W h2 (by omega) (by omega)
  have p := pb_ok (n := n) (m := m) (N := N) (O := O) h1 (by omega) (by omega) (by omega) (lay_64' V (by omega)) (lay_64' W (by omega))
  have z1 : ((64 : Int) < (n : Int) + (m : Int)) ↔ False := by simp only [iff_false]; omega
  have z2 : ((80 : Int) < max (N.length : Int) (O.length : Int) + 1) ↔ False := by simp only [iff_false]; omega
  have l1 : ∀ (N : NatNet) cs, opLen [netD (natN N)] cs = .ok (.int (N.length : Nat)) cs := fun N cs => by
    rw [netD_N]
    show Rs.ok (D.int ((N.map layN).length : Nat)) cs = _
    rw [List.length_map]
  rw [F_beside]
  unfold c_beside
  simp -implicitDefEqProofs only [↓G.e_seq, ↓G.e_skip, ↓G.e_asg, ↓G.e_drop, ↓G.e_ret, ↓G.e_raise, ↓G.e_raiseN, ↓G.e_if, ↓G.e_val, ↓G.e_not, ↓G.e_or, ↓G.e_and, ↓G.e_xand, ↓G.e_xor, ↓G.e_xnot, ↓G.e_var, ↓G.e_c, ↓G.e_bin, ↓G.e_un, ↓G.e_chain, ↓G.e_nil, ↓G.e_cons, ↓G.e_tup, ↓G.e_lst, ↓G.e_call, ↓G.e_callM, ↓G.e_callP, ↓G.e_callO, ↓G.e_for, ↓G.e_itSeq, ↓G.e_itTup, ↓G.e_itR1, ↓G.e_itR2, G.kk_ok, G.kk_ex, G.kF_nx, G.kF_rt, G.kF_ex, G.kI_t, G.kI_f, G.kT_nm, G.kT_tp2, G.kT_ex, G.kB_bl, G.kV_some, G.kO_some, G.kFor_ok, G.nX_n, G.nX_i, G.vB_bl, G.vT_t, G.kP_rt, G.kP_nx, G.kP_ex, G.kQ_some, G.kM_rt, G.kM_nx, G.kM_ex, G.kPO_ex, G.res_bl, G.res_int, G.res_str, G.res_non, G.thr_e, G.ret_e, G.up_ok, G.up_ex, G.upO_ok, G.upO_ex, G.mkL_t, G.mkL_n, G.o_sub, G.o_lt, G.o_le, G.o_gt, G.o_ge, G.o_add, G.o_neg, G.o_isN, G.o_isNI, G.o_isNT, G.o_isNL, G.o_isNR, G.o_isNB, G.o_isNS, G.o_is, G.o_ixT, G.o_ixL, G.o_ixS, G.at_0, G.at_1, G.o_lenL, G.o_lenT, G.o_lenC, G.o_lenS, G.o_max2, G.o_min2, G.o_intB, G.o_intI, G.o_listL, G.o_listT, G.o_listC, G.o_tupL, G.o_eqIt, G.o_eqIf, G.seq_lst, G.seq_scr, G.seq_ref, G.noRL_nil, G.noRL_cons, G.noR_non, G.noR_bl, G.noR_int, G.noR_str, G.noR_dic, G.noR_scr, G.noR_tup, G.noR_lst, G.isd_int, G.isd_intb, G.isd_bool, G.isd_boolb, G.isd_tup, G.isd_lst, G.isd_ref, G.live_lst, G.tgS_nm, G.tgS_tp2, List.getElem?_cons_zero, List.getElem?_cons_succ, List.set_cons_zero, List.set_cons_succ, List.length_cons, List.length_nil, List.nil_append, List.cons_append, Bool.and_true, Bool.true_and, Bool.and_self, Bool.not_true, Bool.not_false, decide_true, decide_false, Nat.reduceAdd, Int.reduceAdd, Int.reduceSub, Int.reduceMul, Int.reduceNeg, Int.cast_ofNat_Int, Int.natCast_zero, Int.natCast_one, eq_self, Int.reduceEq, Int.reduceLT, Int.reduceLE, noR_net, a, b, z1, l1, z2, p, res_n [] (noR_net (natN (behN n m N O)))]
theorem beh_len (n m : Nat) (N O : NatNet) : (behN n m N O).length = max N.length O.length + 1 := by
  unfold behN
  rw [List.length_append, sideN_len, List.length_map]
  rfl
end LK
namespace LK
open L2 G PySem PySem.Spec PyProof.Rows
/-! ### layers and joints of a net that tells are twice the lines less two, or more -/
def cnt (p : Nat × Nat → Bool) (Q : List (Nat × Nat)) : Nat := Q.countP p
theorem cnt_app (p : Nat × Nat → Bool) (Q R : List (Nat × Nat)) : cnt p (Q ++ R) = cnt p Q + cnt p R := List.countP_append
theorem cnt_two {p q r : Nat × Nat → Bool} (h1 : ∀ x, p x = true → r x = true) (h2 : ∀ x, q x = true → r x = true) (h3 : ∀ x, p x = true → q x = true → False) : ∀ Q, cnt p Q + cnt q Q ≤ cnt r Q
  | [] => Nat.le_refl _
  | x :: Q => by
    have ih := cnt_two h1 h2 h3 Q
    unfold cnt at ih ⊢
    rw [List.countP_cons, List.countP_cons, List.countP_cons]
    cases hp : p x with
    | true =>
      rw [h1 x hp]
      cases hq : q x with
      | true => exact (h3 x hp hq).elim
      | false => simp; omega
    | false =>
      cases hq : q x with
      | true =>
        rw [h2 x hq]
        simp
        omega
      | false =>
        cases r x <;> simp <;> omega
theorem cnt_mem {p : Nat × Nat → Bool} {Q : List (Nat × Nat)} {x : Nat × Nat} (h : x ∈ Q) (hp : p x = true) : 1 ≤ cnt p Q := List.countP_pos_iff.mpr ⟨x, h, hp⟩
/-- joints whose results lie in a stretch -/
def inS (a b : Nat) : Nat × Nat → Bool := fun x => decide (a ≤ x.1) && decide (x.2 ≤ b)
theorem inS_iff {a b : Nat} {x : Nat × Nat} : inS a b x = true ↔ a ≤ x.1 ∧ x.2 ≤ b := by
  unfold inS
  rw [Bool.and_eq_true, decide_eq_true_eq, decide_eq_true_eq]
/-- what the results of a layer are -/
def resL (v : Tell.St) (L : List (Nat × Nat)) : List (Nat × Nat) := L.filterMap fun p => (Tell.layerS v (Wt.sw L) p.2).map fun s => (s.1, p.2)
structure Sn (n t : Nat) (v : Tell.St) (Q : List (Nat × Nat)) : Prop where
  hold : Wt.Hold n v
  le : ∀ x ∈ Q, x.1 ≤ x.2
  one : ∀ y a z, y < n → v y = some (a, z) → y ≤ cnt (inS a y) Q + a
  pre : ∀ y z, y < n → v y = some (0, z) → y ≤ cnt (inS 1 y) Q + t
  mem : ∀ y z, y < n → 1 ≤ y → v y = some (0, z) → (0, y) ∈ Q
theorem Sn.start (n : Nat) : Sn n 0 Tell.v0 [] := ⟨Wt.hold0 n, (fun x h => nomatch h), fun y a z _ e => by
  cases e
  omega, fun y z _ e => by
  cases e
  exact Nat.zero_le _, fun y z _ h1 e => by
  cases e
  omega⟩
theorem Sn.layer {n t : Nat} {v : Tell.St} {Q : List (Nat × Nat)} {L : List (Nat × Nat)} (S : Sn n t v Q) (nd : (L.map (·.2)).Nodup) (rg : ∀ p ∈ L, p.1 < p.2 ∧ p.2 < n) : Sn n (t + 1) (Tell.layerS v (Wt.sw L)) (Q ++ resL v L) := by
  have hold' := Wt.hold_lay nd rg S.hold
  have sp : ∀ a l h, a ≤ l → l < h → cnt (inS a l) Q + cnt (inS (l + 1) h) Q ≤ cnt (inS a h) Q := fun a l h h1 h2 => by
    have : ∀ Q : List (Nat × Nat), (∀ x ∈ Q, x.1 ≤ x.2) → cnt (inS a l) Q + cnt (inS (l + 1) h) Q ≤ cnt (inS a h) Q := fun Q => by
      induction Q with
      | nil => exact fun _ => Nat.le_refl _
      | cons x Q ih =>
        intro hx
        have ih := ih fun y hy => hx y (List.mem_cons_of_mem _ hy)
        have h0 := hx x List.mem_cons_self
        unfold cnt at ih ⊢
        rw [List.countP_cons, List.countP_cons, List.countP_cons]
        by_cases p : inS a l x = true
        · have p' := inS_iff.mp p
          have q : ¬ inS (l + 1) h x = true := fun z => by
            have := inS_iff.mp z
            omega
          have r : inS a h x = true := inS_iff.mpr (by omega)
          rw [if_pos p, if_neg q, if_pos r]
          omega
        · by_cases q : inS (l + 1) h x = true
          · have q' := inS_iff.mp q
            have r : inS a h x = true := inS_iff.mpr (by omega)
            rw [if_neg p, if_pos q, if_pos r]
            omega
          · rw [if_neg p, if_neg q]
            split <;> omega
    exact this Q S.le
  have cases_ : ∀ y a z, y < n → Tell.layerS v (Wt.sw L) y = some (a, z) → (∃ p ∈ L, p.2 = y ∧ v p.1 = some (a, p.1) ∧ v y = some (p.1 + 1, y) ∧ a ≤ p.1 ∧ (a, y) ∈ resL v L) ∨ v y = some (a, z) := fun y a z hy e => by
    by_cases q : ∃ p ∈ L, p.2 = y
    · obtain ⟨p, hp, rfl⟩ := q
      have r := rg p hp
      have e' := e
      rw [Wt.lay_in nd hp] at e'
      obtain ⟨c, d, f1, f2, f3⟩ := Wt.join_some e'
      have g1 := S.hold p.1 a c (by omega) f1
      have g2 := S.hold p.2 d z hy f2
      obtain ⟨rfl, g3⟩ := g1
      obtain ⟨rfl, _⟩ := g2
      refine .inl ⟨p, hp, rfl, f1, by rw [f2, f3], g3, ?_⟩
      unfold resL
      exact List.mem_filterMap.mpr ⟨p, hp, by rw [e]; rfl⟩
    · right
      rw [Wt.lay_out fun p hp e => q ⟨p, hp, e⟩] at e
      exact e
  have mono : ∀ f, cnt f Q ≤ cnt f (Q ++ resL v L) := fun f => by
    rw [cnt_app]
    exact Nat.le_add_right _ _
  refine ⟨hold', fun x hx => ?_, fun y a z hy e => ?_, fun y z hy e => ?_, fun y z hy h1 e => ?_⟩
  · rcases List.mem_append.mp hx with h | h
    · exact S.le x h
    · unfold resL at h
      obtain ⟨p, hp, e⟩ := List.mem_filterMap.mp h
      rw [Option.map_eq_some_iff] at e
      obtain ⟨s, e1, rfl⟩ := e
      exact (hold' p.2 s.1 s.2 (rg p hp).2 e1).2
  · rcases cases_ y a z hy e with ⟨p, hp, rfl, e1, e2, e3, e4⟩ | e1
    · have r := rg p hp
      have i1 := S.one p.1 a p.1 (by omega) e1
      have i2 := S.one p.2 (p.1 + 1) p.2 hy e2
      have i3 := sp a p.1 p.2 e3 r.1
      have i4 : 1 ≤ cnt (inS a p.2) (resL v L) := cnt_mem e4 (inS_iff.mpr ⟨Nat.le_refl _, Nat.le_refl _⟩)
      rw [cnt_app]
      omega
    · exact Nat.le_trans (S.one y a z hy e1) (Nat.add_le_add_right (mono _) _)
  · rcases cases_ y 0 z hy e with ⟨p, hp, rfl, e1, e2, e3, e4⟩ | e1
    · have r := rg p hp
      have i1 := S.pre p.1 p.1 (by omega) e1
      have i2 := S.one p.2 (p.1 + 1) p.2 hy e2
      have i4 := mono (inS 1 p.2)
      by_cases q : p.1 = 0
      · rw [q] at i2
        have i2' : p.2 ≤ cnt (inS 1 p.2) Q + 1 := i2
        omega
      · have i3 : cnt (inS 1 p.1) Q + cnt (inS (p.1 + 1) p.2) Q ≤ cnt (inS 1 p.2) Q := sp 1 p.1 p.2 (by omega) r.1
        omega
    · have := S.pre y z hy e1
      have := mono (inS 1 y)
      omega
  · rcases cases_ y 0 z hy e with ⟨p, hp, rfl, e1, e2, e3, e4⟩ | e1
    · exact List.mem_append_right _ e4
    · exact List.mem_append_left _ (S.mem y z hy h1 e1)
def joints (N : NatNet) : Nat := (N.map fun L => L.length).sum
theorem Sn.net {n : Nat} : ∀ {N : NatNet} {t : Nat} {v : Tell.St} {Q : List (Nat × Nat)}, Sn n t v Q → (∀ L ∈ N, (L.map (·.2)).Nodup) → (∀ L ∈ N, ∀ p ∈ L, p.1 < p.2 ∧ p.2 < n) → ∃ Q', Sn n (t + N.length) (Tell.netS v (N.map Wt.sw)) Q' ∧ Q'.length ≤ Q.length + joints N
  | [], t, v, Q, S, _, _ => ⟨Q, S, Nat.le_refl _⟩
  | L :: N, t, v, Q, S, nd, rg => by
    obtain ⟨Q', S', l⟩ := Sn.net (N := N) (S.layer (nd L List.mem_cons_self) (rg L List.mem_cons_self)) (fun K hK => nd K (List.mem_cons_of_mem _ hK)) fun K hK => rg K (List.mem_cons_of_mem _ hK)
    refine ⟨Q', ?_, ?_⟩
    · have : t + (L :: N).length = t + 1 + N.length := by simp only [List.length_cons]; omega
      rw [this]
      exact S'
    · have : (resL v L).length ≤ L.length := List.length_filterMap_le ..
      rw [List.length_append] at l
      show _ ≤ _ + (L.length + joints N)
      omega
theorem snir {n : Nat} {N : NatNet} (h : 1 ≤ n) (A : Good n N) : 2 * n ≤ N.length + joints N + 2 := by
  obtain ⟨Q, S, l⟩ := Sn.net (N := N) (Sn.start n) A.V.nd A.V.rg
  have i1 := S.pre (n - 1) (n - 1) (by omega) (A.t (n - 1) (by omega))
  have mem : ∀ m, m < n → m ≤ cnt (fun x => decide (x.1 = 0) && decide (x.2 ≤ m) && decide (1 ≤ x.2)) Q := fun m => by
    induction m with
    | zero => exact fun _ => Nat.zero_le _
    | succ m ih =>
      intro hm
      have i := ih (by omega)
      have k : 1 ≤ cnt (fun x => decide (x.1 = 0) && decide (x.2 = m + 1)) Q := cnt_mem (S.mem (m + 1) (m + 1) hm (by omega) (A.t (m + 1) hm)) (by simp)
      have s := cnt_two (p := fun x => decide (x.1 = 0) && decide (x.2 ≤ m) && decide (1 ≤ x.2)) (q := fun x => decide (x.1 = 0) && decide (x.2 = m + 1)) (r := fun x => decide (x.1 = 0) && decide (x.2 ≤ m + 1) && decide (1 ≤ x.2)) (fun x hx => by simp at hx ⊢; omega) (fun x hx => by simp at hx ⊢; omega) (fun x hx hy => by simp at hx hy; omega) Q
      omega
  have i2 := mem (n - 1) (by omega)
  have s := cnt_two (p := inS 1 (n - 1)) (q := fun x => decide (x.1 = 0) && decide (x.2 ≤ n - 1) && decide (1 ≤ x.2)) (r := fun _ => true) (fun _ _ => rfl) (fun _ _ => rfl) (fun x hx hy => by
    have := inS_iff.mp hx
    simp at hy
    omega) Q
  have e : cnt (fun _ => true) Q = Q.length := by
    unfold cnt
    rw [List.countP_true]
  rw [e] at s
  have l' : Q.length ≤ joints N := by simpa using l
  omega
end LK
namespace LK
open L2 G PySem PySem.Spec PyProof.Rows
/-! ### the end of a net, cut off -/
def cutL (f : Nat) (L : List (Nat × Nat)) : List (Nat × Nat) := (L.filter fun p => decide (f ≤ p.1)).map fun p => (p.1 - f, p.2 - f)
def cutN (f : Nat) (N : NatNet) : NatNet := (N.map (cutL f)).filter fun L => !L.isEmpty
theorem cutL_mem {f : Nat} {L : List (Nat × Nat)} {q : Nat × Nat} : q ∈ cutL f L ↔ ∃ p ∈ L, f ≤ p.1 ∧ q = (p.1 - f, p.2 - f) := by
  unfold cutL
  rw [List.mem_map]
  constructor
  · rintro ⟨p, h, e⟩
    rw [List.mem_filter, decide_eq_true_eq] at h
    exact ⟨p, h.1, h.2, e.symm⟩
  · rintro ⟨p, h, h2, e⟩
    exact ⟨p, List.mem_filter.mpr ⟨h, decide_eq_true h2⟩, e.symm⟩
theorem cutL_up {f m : Nat} {L : List (Nat × Nat)} (up : L.Pairwise fun a b => a.2 < b.2) (rg : ∀ p ∈ L, p.1 < p.2 ∧ p.2 < m) : (cutL f L).Pairwise fun a b => a.2 < b.2 := by
  unfold cutL
  refine List.pairwise_map.mpr ?_
  have s := List.Pairwise.filter (fun p : Nat × Nat => decide (f ≤ p.1)) up
  refine (List.Pairwise.and_mem.mp s).imp fun {a b} h => ?_
  obtain ⟨ha, hb, h⟩ := h
  rw [List.mem_filter, decide_eq_true_eq] at ha hb
  have := rg a ha.1
  have := rg b hb.1
  dsimp only
  omega
theorem cut_valid {f m : Nat} {N : NatNet} (V : Valid m N) : Valid (m - f) (cutN f N) := by
  have mem : ∀ L ∈ cutN f N, ∃ K ∈ N, L = cutL f K ∧ L ≠ [] := fun L hL => by
    unfold cutN at hL
    rw [List.mem_filter] at hL
    obtain ⟨K, hK, rfl⟩ := List.mem_map.mp hL.1
    exact ⟨K, hK, rfl, fun e => by rw [e] at hL; exact absurd hL.2 (by decide)⟩
  refine ⟨fun L hL => ?_, fun L hL => ?_, fun L hL p hp => ?_⟩
  · obtain ⟨_, _, _, h⟩ := mem L hL
    exact h
  · obtain ⟨K, hK, rfl, _⟩ := mem L hL
    exact cutL_up (V.up K hK) (V.rg K hK)
  · obtain ⟨K, hK, rfl, _⟩ := mem L hL
    obtain ⟨q, hq, h, rfl⟩ := cutL_mem.mp hp
    have := V.rg K hK q hq
    dsimp only
    omega
theorem netS_ne (f : Nat) : ∀ (N : NatNet) (v : Tell.St), Tell.netS v ((cutN f N).map Wt.sw) = Tell.netS v ((N.map (cutL f)).map Wt.sw)
  | [], v => rfl
  | L :: N, v => by
    unfold cutN
    rw [List.map_cons, List.filter_cons]
    by_cases e : cutL f L = []
    · rw [e]
      exact netS_ne f N v
    · have : (!(cutL f L).isEmpty) = true := by
        cases h : cutL f L with
        | nil => exact absurd h e
        | cons => rfl
      rw [if_pos this]
      exact netS_ne f N _
theorem cut_goes {f m : Nat} : ∀ {N : NatNet} {v w : Tell.St}, (∀ L ∈ N, (L.map (·.2)).Nodup) → (∀ L ∈ N, L.Pairwise fun a b => a.2 < b.2) → (∀ L ∈ N, ∀ p ∈ L, p.1 < p.2 ∧ p.2 < m) → Wt.Hold m v → (∀ y, f ≤ y → y < m → ∃ a, v y = some (a, y) ∧ w (y - f) = some (a - f, y - f)) → (∀ y, y < m → Tell.netS v (N.map Wt.sw) y = some (0, y)) →
    ∀ y, f ≤ y → y < m → Tell.netS w ((N.map (cutL f)).map Wt.sw) (y - f) = some (0, y - f)
  | [], v, w, _, _, _, _, hw, ht => fun y h1 h2 => by
    obtain ⟨a, e1, e2⟩ := hw y h1 h2
    have e := ht y h2
    have e' : v y = some (0, y) := e
    rw [e1] at e'
    cases e'
    rw [Nat.zero_sub] at e2
    exact e2
  | L :: N, v, w, nd, up, rg, hd, hw, ht => by
    have ndL := nd L List.mem_cons_self
    have rgL := rg L List.mem_cons_self
    have ndK : ((cutL f L).map (·.2)).Nodup := lay_ok (cutL_up (up L List.mem_cons_self) rgL)
    refine cut_goes (N := N) (v := Tell.layerS v (Wt.sw L)) (w := Tell.layerS w (Wt.sw (cutL f L))) (fun K hK => nd K (List.mem_cons_of_mem _ hK)) (fun K hK => up K (List.mem_cons_of_mem _ hK)) (fun K hK => rg K (List.mem_cons_of_mem _ hK)) (Wt.hold_lay ndL rgL hd) (fun y h1 h2 => ?_) ht
    obtain ⟨a, e1, e2⟩ := hw y h1 h2
    by_cases q : ∃ p ∈ L, p.2 = y
    · obtain ⟨p, hp, rfl⟩ := q
      have r := rgL p hp
      obtain ⟨u, hu⟩ := Wt.some_net (N := N) (v := Tell.layerS v (Wt.sw L)) (fun K hK => nd K (List.mem_cons_of_mem _ hK)) (ht p.2 h2)
      have hu2 := hu
      rw [Wt.lay_in ndL hp] at hu2
      obtain ⟨u1, u2⟩ := u
      obtain ⟨c, d, f1, f2, f3⟩ := Wt.join_some hu2
      have g1 := hd p.1 u1 c (by omega) f1
      obtain ⟨rfl, g2⟩ := g1
      rw [e1] at f2
      cases f2
      refine ⟨u1, hu, ?_⟩
      by_cases k : f ≤ p.1
      · obtain ⟨a', e1', e2'⟩ := hw p.1 k (by omega)
        rw [f1] at e1'
        cases e1'
        have hq : (p.1 - f, p.2 - f) ∈ cutL f L := cutL_mem.mpr ⟨p, hp, k, rfl⟩
        have e := Wt.lay_in (v := w) ndK hq
        rw [e]
        show Tell.join (w (p.1 - f)) (w (p.2 - f)) = _
        rw [e2', e2]
        show (if p.1 - f + 1 = a - f then some (u1 - f, p.2 - f) else none) = _
        rw [if_pos (by omega)]
      · rw [Wt.lay_out fun q hq => ?_]
        · rw [e2]
          rw [show a - f = 0 by omega, show u1 - f = 0 by omega]
        · obtain ⟨p', hp', k', rfl⟩ := cutL_mem.mp hq
          intro e
          have r' := rgL p' hp'
          have e' : p'.2 = p.2 := by
            have : p'.2 - f = p.2 - f := e
            omega
          -- one joint a line
          have := Wt.lay_in (v := v) ndL hp'
          rw [e', hu] at this
          obtain ⟨c', d', k1, k2, k3⟩ := Wt.join_some this.symm
          have := (hd p'.1 u1 c' (by omega) k1).1
          rw [e1] at k2
          cases k2
          omega
    · refine ⟨a, by rw [Wt.lay_out fun p hp e => q ⟨p, hp, e⟩]; exact e1, ?_⟩
      rw [Wt.lay_out fun q' hq => ?_]
      · exact e2
      · obtain ⟨p', hp', k', rfl⟩ := cutL_mem.mp hq
        intro e
        have r' := rgL p' hp'
        exact q ⟨p', hp', by
          have : p'.2 - f = y - f := e
          omega⟩
theorem cut_good {f m : Nat} {N : NatNet} (hf : f < m) (A : Good m N) : Good (m - f) (cutN f N) := by
  refine ⟨cut_valid A.V, fun y hy => ?_⟩
  rw [netS_ne]
  have e := cut_goes (f := f) (v := Tell.v0) (w := Tell.v0) A.V.nd A.V.up A.V.rg (Wt.hold0 m) (fun y _ _ => ⟨y, rfl, rfl⟩) A.t (y + f) (by omega) (by omega)
  rw [show y + f - f = y by omega] at e
  exact e
theorem cutN_len (f : Nat) (N : NatNet) : (cutN f N).length ≤ N.length := Nat.le_trans (List.length_filter_le ..) (by rw [List.length_map]; exact Nat.le_refl _)
end LK
/-! Rn: the lists of numbers that the lines hold, and the stretches. -/
namespace Rn
open Wt
abbrev Rw := Nat → List Nat
def updR (r : Rw) (x : Nat) (l : List Nat) : Rw := fun z => if z = x then l else r z
def rGo (r : Rw) : Lay → Rw → Rw
  | [], now => now
  | p :: L, now => rGo r L (updR now p.2 (r p.1 ++ r p.2))
def netR : Rw → WNet → Rw
  | r, [] => r
  | r, L :: N => netR (rGo r L r) N
theorem rGo_out {r : Rw} : ∀ {L : Lay} {now : Rw} {y : Nat}, (∀ p ∈ L, p.2 ≠ y) → rGo r L now y = now y
  | [], _, _, _ => rfl
  | p :: L, now, y, h => by
    show rGo r L (updR now p.2 _) y = _
    rw [rGo_out fun q hq => h q (List.mem_cons_of_mem _ hq)]
    exact if_neg fun e => h p List.mem_cons_self e.symm
theorem rGo_in {r : Rw} : ∀ {L : Lay} {now : Rw}, (L.map (·.2)).Nodup → ∀ {p : Nat × Nat}, p ∈ L → rGo r L now p.2 = r p.1 ++ r p.2
  | q :: L, now, nd, p, hp => by
    obtain ⟨n1, n2⟩ := List.nodup_cons.mp (show (q.2 :: L.map (·.2)).Nodup from nd)
    show rGo r L (updR now q.2 (r q.1 ++ r q.2)) p.2 = _
    rcases List.mem_cons.mp hp with e | e
    · subst e
      rw [rGo_out fun s hs z => n1 (by rw [← z]; exact List.mem_map.mpr ⟨s, hs, rfl⟩)]
      exact if_pos rfl
    · exact rGo_in n2 e
theorem len_lay {r : Rw} {w : Wf} {L : Lay} (nd : (L.map (·.2)).Nodup) (h : ∀ y, (r y).length ≤ w y) (y : Nat) : (rGo r L r y).length ≤ layW w L y := by
  by_cases q : ∃ p ∈ L, p.2 = y
  · obtain ⟨p, hp, rfl⟩ := q
    rw [rGo_in nd hp, List.length_append]
    show _ ≤ w p.2 + addAt w p.2 L
    rw [addAt_in nd hp]
    have := h p.1
    have := h p.2
    omega
  · rw [rGo_out fun p hp e => q ⟨p, hp, e⟩]
    exact Nat.le_trans (h y) (Nat.le_add_right _ _)
def IsRun (l : List Nat) : Prop := ∃ a k, l = List.range' a k
theorem run_left {l m : List Nat} (h : IsRun (l ++ m)) : IsRun l := by
  obtain ⟨a, k, e⟩ := h
  have hk := congrArg List.length e
  rw [List.length_append, List.length_range'] at hk
  refine ⟨a, l.length, List.ext_getElem (by simp) fun i h1 h2 => ?_⟩
  have h3 : (l ++ m)[i]? = (List.range' a k)[i]? := by rw [e]
  rw [List.getElem?_append_left h1, List.getElem?_eq_getElem h1, List.getElem?_range' (by omega)] at h3
  rw [Option.some.inj h3]
  simp
theorem run_right {l m : List Nat} (h : IsRun (l ++ m)) : IsRun m := by
  obtain ⟨a, k, e⟩ := h
  have e2 : m = (l ++ m).drop l.length := by simp
  rw [e, List.drop_range'] at e2
  exact ⟨_, _, e2⟩
/-- the stretches tell what the lists hold -/
structure Rel (n : Nat) (v : Tell.St) (r : Rw) : Prop where
  ne : ∀ y, y < n → r y ≠ []
  s : ∀ y a z, y < n → v y = some (a, z) → z = y ∧ a ≤ y ∧ r y = List.range' a (y + 1 - a)
  o : ∀ y, y < n → v y = none → ¬ IsRun (r y)
theorem rel0 (n : Nat) : Rel n Tell.v0 fun y => [y] := ⟨fun y _ => by simp, fun y a z _ e => by
  cases e
  refine ⟨rfl, Nat.le_refl _, ?_⟩
  rw [show y + 1 - y = 1 by omega]
  rfl, fun y _ e => by cases e⟩
theorem rel_lay {n : Nat} {v : Tell.St} {r : Rw} {L : Lay} (nd : (L.map (·.2)).Nodup) (rg : ∀ p ∈ L, p.1 < p.2 ∧ p.2 < n) (h : Rel n v r) : Rel n (Tell.layerS v (sw L)) (rGo r L r) := by
  refine ⟨fun y hy => ?_, fun y a z hy e => ?_, fun y hy e => ?_⟩
  · by_cases q : ∃ p ∈ L, p.2 = y
    · obtain ⟨p, hp, rfl⟩ := q
      rw [rGo_in nd hp]
      have := h.ne p.2 hy
      simp [this]
    · rw [rGo_out fun p hp e => q ⟨p, hp, e⟩]
      exact h.ne y hy
  · by_cases q : ∃ p ∈ L, p.2 = y
    · obtain ⟨p, hp, rfl⟩ := q
      rw [lay_in nd hp] at e
      obtain ⟨c, d, e1, e2, e3⟩ := join_some e
      have hl : p.1 < n := by have := rg p hp; omega
      obtain ⟨f1, f2, f3⟩ := h.s p.1 a c hl e1
      obtain ⟨g1, g2, g3⟩ := h.s p.2 d z hy e2
      refine ⟨g1, by omega, ?_⟩
      rw [rGo_in nd hp, f3, g3]
      subst f1
      have k := List.range'_append_1 (s := a) (m := p.1 + 1 - a) (n := p.2 + 1 - d)
      rw [show a + (p.1 + 1 - a) = d by omega, show p.1 + 1 - a + (p.2 + 1 - d) = p.2 + 1 - a by omega] at k
      exact k
    · rw [lay_out fun p hp e => q ⟨p, hp, e⟩] at e
      rw [rGo_out fun p hp e => q ⟨p, hp, e⟩]
      exact h.s y a z hy e
  · by_cases q : ∃ p ∈ L, p.2 = y
    · obtain ⟨p, hp, rfl⟩ := q
      have hl : p.1 < n := by have := rg p hp; omega
      rw [lay_in nd hp] at e
      rw [rGo_in nd hp]
      intro hr
      cases e1 : v p.1 with
      | none => exact h.o p.1 hl e1 (run_left hr)
      | some x =>
        cases e2 : v p.2 with
        | none => exact h.o p.2 hy e2 (run_right hr)
        | some z =>
          obtain ⟨a, c⟩ := x
          obtain ⟨d, f⟩ := z
          obtain ⟨f1, f2, f3⟩ := h.s p.1 a c hl e1
          obtain ⟨g1, g2, g3⟩ := h.s p.2 d f hy e2
          rw [e1, e2] at e
          have nj : c + 1 ≠ d := fun z => by
            have : Tell.join (some (a, c)) (some (d, f)) = some (a, f) := if_pos z
            rw [this] at e
            cases e
          rw [f3, g3] at hr
          obtain ⟨s, k, hk⟩ := hr
          have l1 := congrArg List.length hk
          rw [List.length_append, List.length_range', List.length_range', List.length_range'] at l1
          have b0 : (List.range' s k)[0]? = some a := by
            rw [← hk, List.getElem?_append_left (by rw [List.length_range']; omega), List.getElem?_range' (by omega)]
            simp
          have b1 : (List.range' s k)[p.1 + 1 - a]? = some d := by
            rw [← hk, List.getElem?_append_right (by rw [List.length_range']; omega), List.length_range', List.getElem?_range' (by omega)]
            simp
          rw [List.getElem?_range' (by omega)] at b0 b1
          simp at b0 b1
          omega
    · rw [lay_out fun p hp e => q ⟨p, hp, e⟩] at e
      rw [rGo_out fun p hp e => q ⟨p, hp, e⟩]
      exact h.o y hy e
theorem rel_net {n : Nat} : ∀ {N : WNet} {v : Tell.St} {r : Rw}, (∀ L ∈ N, (L.map (·.2)).Nodup) → (∀ L ∈ N, ∀ p ∈ L, p.1 < p.2 ∧ p.2 < n) → Rel n v r → Rel n (Tell.netS v (N.map sw)) (netR r N)
  | [], _, _, _, _, h => h
  | L :: N, v, r, nd, rg, h => rel_net (N := N) (v := Tell.layerS v (sw L)) (r := rGo r L r) (fun K hK => nd K (List.mem_cons_of_mem _ hK)) (fun K hK => rg K (List.mem_cons_of_mem _ hK)) (rel_lay (nd L List.mem_cons_self) (rg L List.mem_cons_self) h)
theorem rel_end {n : Nat} {v : Tell.St} {r : Rw} (h : Rel n v r) : (∀ y, y < n → v y = some (0, y)) ↔ ∀ y, y < n → r y = List.range (y + 1) := by
  constructor
  · intro hv y hy
    obtain ⟨_, _, e⟩ := h.s y 0 y hy (hv y hy)
    rw [e, List.range_eq_range', Nat.sub_zero]
  · intro hr y hy
    cases e : v y with
    | none =>
      refine absurd ?_ (h.o y hy e)
      rw [hr y hy, List.range_eq_range']
      exact ⟨_, _, rfl⟩
    | some x =>
      obtain ⟨a, z⟩ := x
      obtain ⟨e1, e2, e3⟩ := h.s y a z hy e
      rw [hr y hy] at e3
      have := congrArg List.length e3
      rw [List.length_range, List.length_range'] at this
      rw [e1, show a = 0 by omega]
theorem goW_len {n : Nat} : ∀ {N : WNet} {r : Rw} {w : Wf}, (∀ L ∈ N, (L.map (·.2)).Nodup) → (∀ y, (r y).length ≤ w y) → ∀ y, (netR r N y).length ≤ goW w N y
  | [], _, _, _, h, y => h y
  | L :: N, r, w, nd, h, y => goW_len (n := n) (N := N) (fun K hK => nd K (List.mem_cons_of_mem _ hK)) (fun y => len_lay (nd L List.mem_cons_self) h y) y
/-- a whole layer put in -/
theorem goW_ins : ∀ (L : Lay) (B : WNet) (u : Wf) (c : Wf) (y : Nat), (∀ x, goW (fun z => if z = x then 1 else 0) B y ≤ c x) → goW (layW u L) B y ≤ goW u B y + (L.map fun p => u p.1 * c p.2).sum := by
  have scale : ∀ (B : WNet) (d x y : Nat), goW (fun z => if z = x then d else 0) B y = d * goW (fun z => if z = x then 1 else 0) B y := fun B d x y => by
    induction d with
    | zero =>
      have z : ∀ (B : WNet), goW (fun _ => 0) B y = 0 := fun B => by
        have := goW_add B (fun _ => 0) (fun _ => 0) y
        simp at this
        omega
      rw [Nat.zero_mul]
      have e : (fun z => if z = x then 0 else 0) = (fun _ : Nat => 0) := by
        funext z
        split <;> rfl
      rw [e, z]
    | succ d ih =>
      have e : (fun z => if z = x then d + 1 else 0) = (fun z => (if z = x then d else 0) + (if z = x then 1 else 0)) := by
        funext z
        split <;> rfl
      rw [e, goW_add, ih, Nat.succ_mul]
  intro L B u c y hc
  have gen : ∀ (M : Lay), goW (fun x => u x + addAt u x M) B y ≤ goW u B y + (M.map fun p => u p.1 * c p.2).sum := fun M => by
    induction M with
    | nil => exact Nat.le_refl _
    | cons p M ih =>
      have e : (fun x => u x + addAt u x (p :: M)) = (fun x => (u x + addAt u x M) + (if x = p.2 then u p.1 else 0)) := by
        funext x
        simp only [addAt]
        by_cases q : p.2 = x
        · rw [if_pos q, if_pos q.symm]
          omega
        · rw [if_neg q, if_neg fun z => q z.symm]
          omega
      rw [e, goW_add, scale, List.map_cons, List.sum_cons]
      have := Nat.mul_le_mul_left (u p.1) (hc p.2)
      omega
  exact gen L
theorem Bd.ins {n S : Nat} {A B : WNet} {L : Lay} (h : Bd n S (A ++ B)) (rg : ∀ p ∈ L, p.1 < n) : Bd n (S + L.length * (S * S)) (A ++ L :: B) := fun w y hy => by
  rw [goW_app]
  show goW (layW (goW w A) L) B y ≤ _
  have c1 : ∀ x, goW (fun z => if z = x then 1 else 0) B y ≤ S := fun x => by
    have := h (fun z => if z = x then 1 else 0) y hy
    rw [goW_app] at this
    refine Nat.le_trans (goW_mono B (fun z => goW_ge A (fun z => if z = x then 1 else 0) z) y) (Nat.le_trans this ?_)
    have := tot_one x 1 n
    exact Nat.le_trans (Nat.mul_le_mul_left _ this) (by omega)
  have a := goW_ins L B (goW w A) (fun _ => S) y c1
  have b : goW (goW w A) B y ≤ S * tot w n := by
    have := h w y hy
    rw [goW_app] at this
    exact this
  have d : ∀ M : Lay, (∀ p ∈ M, p.1 < n) → (M.map fun p => goW w A p.1 * S).sum ≤ M.length * (S * S) * tot w n := fun M => by
    induction M with
    | nil => exact fun _ => by simp
    | cons p M ih =>
      intro hM
      have i := ih fun q hq => hM q (List.mem_cons_of_mem _ hq)
      have e := h w p.1 (hM p List.mem_cons_self)
      rw [goW_app] at e
      have e2 := Nat.le_trans (goW_ge B (goW w A) p.1) e
      have e3 := Nat.mul_le_mul_right S e2
      rw [List.map_cons, List.sum_cons, List.length_cons, Nat.add_mul, Nat.add_mul]
      have e4 : S * tot w n * S = 1 * (S * S) * tot w n := by
        rw [Nat.one_mul, Nat.mul_right_comm]
      omega
  have e := d L rg
  rw [Nat.add_mul]
  omega
end Rn
namespace LK
open L2 G PySem PySem.Spec PyProof.Rows
theorem lcGo_fm {live : Cs → Bool} {t : Tg} {tt : En → M Bool} {te : En → M D} {env : En} {cs : Cs} (p : D → Bool) (g : D → D) (hl : live cs = true) :
    ∀ {xs : List D}, (∀ x ∈ xs, ∃ env1, tgS t x env = some env1 ∧ tt env1 cs = .ok (p x) cs ∧ (p x = true → te env1 cs = .ok (g x) cs)) → lcGo live t tt te env xs cs = .ok ((xs.filter p).map g) cs
  | [], _ => by
    show guardM live _ cs = _
    unfold guardM
    rw [if_pos hl]
    rfl
  | x :: r, h => by
    obtain ⟨env1, h1, h2, h3⟩ := h x List.mem_cons_self
    have ih := lcGo_fm (live := live) (t := t) (tt := tt) (te := te) (env := env) (cs := cs) p g hl fun y hy => h y (List.mem_cons_of_mem _ hy)
    show guardM live (match tgS t x env with
      | some env1 => _
      | none => M.no) cs = _
    unfold guardM
    rw [if_pos hl, h1]
    show M.bnd (tt env1) _ cs = _
    rw [M.bnd_ok h2]
    cases q : p x with
    | true =>
      show M.bnd (te env1) _ cs = _
      rw [M.bnd_ok (h3 q), M.bnd_ok ih, List.filter_cons_of_pos q]
      rfl
    | false =>
      rw [List.filter_cons_of_neg (by rw [q]; decide)]
      exact ih
theorem lc_fm {c : Bool} {it : En → M It0} {own : List Nat} {t : Tg} {tt : En → M Bool} {te : En → M D} {env : En} {cs cs1 : Cs} {xs : List D} {live : Cs → Bool} (p : D → Bool) (g : D → D) (hi : it env cs = .ok ⟨xs, live⟩ cs1) (hl : live cs1 = true) (hz : xs.length ≤ 1000000)
    (h : ∀ x ∈ xs, ∃ env1, tgS t x (wip env own) = some env1 ∧ tt env1 cs1 = .ok (p x) cs1 ∧ (p x = true → te env1 cs1 = .ok (g x) cs1)) : xLcN c it own t tt te env cs = mkL c ((xs.filter p).map g) cs1 := by
  show M.bnd (it env) _ cs = _
  rw [M.bnd_ok hi]
  show (if szOk xs.length = true then M.bnd (noX (lcGo live t tt te (wip env own) xs)) _ else M.no) cs1 = _
  rw [if_pos (show szOk xs.length = true from decide_eq_true hz)]
  have e : noX (lcGo live t tt te (wip env own) xs) cs1 = .ok ((xs.filter p).map g) cs1 := by
    unfold noX
    rw [lcGo_fm p g hl h]
  rw [M.bnd_ok e]
theorem lay_nilf (L : List (Nat × Nat)) (cs : Cs) : opEq false (layN L) (.lst []) cs = .ok (.bl (!decide (L = []))) cs := by
  have o2 : okD 2 (.lst []) = true := rfl
  have e1 : py cs (layN L) = some (pyL (L.map zz)) := by
    show (pyGL _ (layD (L.map zz))).map PyData.list = _
    rw [pyGL_lay]
    rfl
  have e2 : py cs (layN L) = some (pyD (layN L)) := (okD_py 2 _ (okD_layN L)).1 _
  have e3 : pyD (layN L) = pyL (L.map zz) := Option.some.inj (e2.symm.trans e1)
  have e4 : pyD (.lst []) = pyL [] := Option.some.inj (((okD_py 2 _ o2).1 (pyN cs 2)).symm.trans (rfl : _ = some (pyL [])))
  rw [eq_ok (okD_layN L) o2 (by decide) (by decide), e3, e4, if_neg (by decide), eqv_pyL]
  cases L with
  | nil => rfl
  | cons p L => rw [decide_eq_false (fun z => nomatch z), decide_eq_false (fun z => nomatch z)]
theorem cut_lc {f m : Nat} {L : List (Nat × Nat)} {s0 s1 s4 s6 s7 s8 : Option D} {cs : Cs} (hL : L.length ≤ 64) (rg : ∀ p ∈ L, p.1 < p.2 ∧ p.2 < m) :
    m_cut_0 [s0, s1, some (.int (f : Nat)), some (.int (m : Nat)), s4, some (layN L), s6, s7, s8] cs = .ok (layN (cutL f L)) cs := by
  unfold m_cut_0
  rw [lc_fm (cs1 := cs) (xs := L.map fun p => D.tup [.int (p.1 : Nat), .int (p.2 : Nat)]) (live := liveOf (layD (L.map zz)) (layN L)) (fun d => match d with
    | .tup [.int a, .int b] => decide ((f : Int) ≤ a)
    | _ => false) (fun d => match d with
    | .tup [.int a, .int b] => .tup [.int (a - (f : Nat)), .int (b - (f : Nat))]
    | d => d) (by rw [← layD_f]; simp -implicitDefEqProofs only [↓G.e_seq, ↓G.e_skip, ↓G.e_asg, ↓G.e_drop, ↓G.e_ret, ↓G.e_raise, ↓G.e_raiseN, ↓G.e_if, ↓G.e_val, ↓G.e_not, ↓G.e_or, ↓G.e_and, ↓G.e_xand, ↓G.e_xor, ↓G.e_xnot, ↓G.e_var, ↓G.e_c, ↓G.e_bin, ↓G.e_un, ↓G.e_chain, ↓G.e_nil, ↓G.e_cons, ↓G.e_tup, ↓G.e_lst, ↓G.e_call, ↓G.e_callM, ↓G.e_callP, ↓G.e_callO, ↓G.e_for, ↓G.e_itSeq, ↓G.e_itTup, ↓G.e_itR1, ↓G.e_itR2, G.kk_ok, G.kk_ex, G.kF_nx, G.kF_rt, G.kF_ex, G.kI_t, G.kI_f, G.kT_nm, G.kT_tp2, G.kT_ex, G.kB_bl, G.kV_some, G.kO_some, G.kFor_ok, G.nX_n, G.nX_i, G.vB_bl, G.vT_t, G.kP_rt, G.kP_nx, G.kP_ex, G.kQ_some, G.kM_rt, G.kM_nx, G.kM_ex, G.kPO_ex, G.res_bl, G.res_int, G.res_str, G.res_non, G.thr_e, G.ret_e, G.up_ok, G.up_ex, G.upO_ok, G.upO_ex, G.mkL_t, G.mkL_n, G.o_sub, G.o_lt, G.o_le, G.o_gt, G.o_ge, G.o_add, G.o_neg, G.o_isN, G.o_isNI, G.o_isNT, G.o_isNL, G.o_isNR, G.o_isNB, G.o_isNS, G.o_is, G.o_ixT, G.o_ixL, G.o_ixS, G.at_0, G.at_1, G.o_lenL, G.o_lenT, G.o_lenC, G.o_lenS, G.o_max2, G.o_min2, G.o_intB, G.o_intI, G.o_listL, G.o_listT, G.o_listC, G.o_tupL, G.o_eqIt, G.o_eqIf, G.seq_lst, G.seq_scr, G.seq_ref, G.noRL_nil, G.noRL_cons, G.noR_non, G.noR_bl, G.noR_int, G.noR_str, G.noR_dic, G.noR_scr, G.noR_tup, G.noR_lst, G.isd_int, G.isd_intb, G.isd_bool, G.isd_boolb, G.isd_tup, G.isd_lst, G.isd_ref, G.live_lst, G.tgS_nm, G.tgS_tp2, List.getElem?_cons_zero, List.getElem?_cons_succ, List.set_cons_zero, List.set_cons_succ, List.length_cons, List.length_nil, List.nil_append, List.cons_append, Bool.and_true, Bool.true_and, Bool.and_self, Bool.not_true, Bool.not_false, decide_true, decide_false, Nat.reduceAdd, Int.reduceAdd, Int.reduceSub, Int.reduceMul, Int.reduceNeg, Int.cast_ofNat_Int, Int.natCast_zero, Int.natCast_one, eq_self, Int.reduceEq, Int.reduceLT, Int.reduceLE, G.wip_nil, G.wip_cons, Nat.reduceLeDiff, ↓G.e_sl, ↓G.e_pNo, ↓G.e_pSome, G.vI_i, ↓G.e_fgo_cons, ↓G.e_fgo_nil, G.kL_nx, G.kL_rt, G.kL_ex, G.kS_some, layN]) rfl (by rw [List.length_map]; omega) fun x hx => by
    obtain ⟨p, hp, rfl⟩ := List.mem_map.mp hx
    have r := rg p hp
    refine ⟨_, rfl, ?_, fun _ => ?_⟩
    · have z : ((p.2 : Int) < (m : Int)) ↔ True := by simp only [iff_true]; omega
      unfold i_cut_0
      by_cases q : f ≤ p.1
      · have z1 : ((f : Int) ≤ (p.1 : Int)) ↔ True := by simp only [iff_true]; omega
        simp -implicitDefEqProofs only [↓G.e_seq, ↓G.e_skip, ↓G.e_asg, ↓G.e_drop, ↓G.e_ret, ↓G.e_raise, ↓G.e_raiseN, ↓G.e_if, ↓G.e_val, ↓G.e_not, ↓G.e_or, ↓G.e_and, ↓G.e_xand, ↓G.e_xor, ↓G.e_xnot, ↓G.e_var, ↓G.e_c, ↓G.e_bin, ↓G.e_un, ↓G.e_chain, ↓G.e_nil, ↓G.e_cons, ↓G.e_tup, ↓G.e_lst, ↓G.e_call, ↓G.e_callM, ↓G.e_callP, ↓G.e_callO, ↓G.e_for, ↓G.e_itSeq, ↓G.e_itTup, ↓G.e_itR1, ↓G.e_itR2, G.kk_ok, G.kk_ex, G.kF_nx, G.kF_rt, G.kF_ex, G.kI_t, G.kI_f, G.kT_nm, G.kT_tp2, G.kT_ex, G.kB_bl, G.kV_some, G.kO_some, G.kFor_ok, G.nX_n, G.nX_i, G.vB_bl, G.vT_t, G.kP_rt, G.kP_nx, G.kP_ex, G.kQ_some, G.kM_rt, G.kM_nx, G.kM_ex, G.kPO_ex, G.res_bl, G.res_int, G.res_str, G.res_non, G.thr_e, G.ret_e, G.up_ok, G.up_ex, G.upO_ok, G.upO_ex, G.mkL_t, G.mkL_n, G.o_sub, G.o_lt, G.o_le, G.o_gt, G.o_ge, G.o_add, G.o_neg, G.o_isN, G.o_isNI, G.o_isNT, G.o_isNL, G.o_isNR, G.o_isNB, G.o_isNS, G.o_is, G.o_ixT, G.o_ixL, G.o_ixS, G.at_0, G.at_1, G.o_lenL, G.o_lenT, G.o_lenC, G.o_lenS, G.o_max2, G.o_min2, G.o_intB, G.o_intI, G.o_listL, G.o_listT, G.o_listC, G.o_tupL, G.o_eqIt, G.o_eqIf, G.seq_lst, G.seq_scr, G.seq_ref, G.noRL_nil, G.noRL_cons, G.noR_non, G.noR_bl, G.noR_int, G.noR_str, G.noR_dic, G.noR_scr, G.noR_tup, G.noR_lst, G.isd_int, G.isd_intb, G.isd_bool, G.isd_boolb, G.isd_tup, G.isd_lst, G.isd_ref, G.live_lst, G.tgS_nm, G.tgS_tp2, List.getElem?_cons_zero, List.getElem?_cons_succ, List.set_cons_zero, List.set_cons_succ, List.length_cons, List.length_nil, List.nil_append, List.cons_append, Bool.and_true, Bool.true_and, Bool.and_self, Bool.not_true, Bool.not_false, decide_true, decide_false, Nat.reduceAdd, Int.reduceAdd, Int.reduceSub, Int.reduceMul, Int.reduceNeg, Int.cast_ofNat_Int, Int.natCast_zero, Int.natCast_one, eq_self, Int.reduceEq, Int.reduceLT, Int.reduceLE, G.wip_nil, G.wip_cons, Nat.reduceLeDiff, ↓G.e_sl, ↓G.e_pNo, ↓G.e_pSome, G.vI_i, ↓G.e_fgo_cons, ↓G.e_fgo_nil, G.kL_nx, G.kL_rt, G.kL_ex, G.kS_some, z, z1]
      · have z1 : ((f : Int) ≤ (p.1 : Int)) ↔ False := by simp only [iff_false]; omega
        simp -implicitDefEqProofs only [↓G.e_seq, ↓G.e_skip, ↓G.e_asg, ↓G.e_drop, ↓G.e_ret, ↓G.e_raise, ↓G.e_raiseN, ↓G.e_if, ↓G.e_val, ↓G.e_not, ↓G.e_or, ↓G.e_and, ↓G.e_xand, ↓G.e_xor, ↓G.e_xnot, ↓G.e_var, ↓G.e_c, ↓G.e_bin, ↓G.e_un, ↓G.e_chain, ↓G.e_nil, ↓G.e_cons, ↓G.e_tup, ↓G.e_lst, ↓G.e_call, ↓G.e_callM, ↓G.e_callP, ↓G.e_callO, ↓G.e_for, ↓G.e_itSeq, ↓G.e_itTup, ↓G.e_itR1, ↓G.e_itR2, G.kk_ok, G.kk_ex, G.kF_nx, G.kF_rt, G.kF_ex, G.kI_t, G.kI_f, G.kT_nm, G.kT_tp2, G.kT_ex, G.kB_bl, G.kV_some, G.kO_some, G.kFor_ok, G.nX_n, G.nX_i, G.vB_bl, G.vT_t, G.kP_rt, G.kP_nx, G.kP_ex, G.kQ_some, G.kM_rt, G.kM_nx, G.kM_ex, G.kPO_ex, G.res_bl, G.res_int, G.res_str, G.res_non, G.thr_e, G.ret_e, G.up_ok, G.up_ex, G.upO_ok, G.upO_ex, G.mkL_t, G.mkL_n, G.o_sub, G.o_lt, G.o_le, G.o_gt, G.o_ge, G.o_add, G.o_neg, G.o_isN, G.o_isNI, G.o_isNT, G.o_isNL, G.o_isNR, G.o_isNB, G.o_isNS, G.o_is, G.o_ixT, G.o_ixL, G.o_ixS, G.at_0, G.at_1, G.o_lenL, G.o_lenT, G.o_lenC, G.o_lenS, G.o_max2, G.o_min2, G.o_intB, G.o_intI, G.o_listL, G.o_listT, G.o_listC, G.o_tupL, G.o_eqIt, G.o_eqIf, G.seq_lst, G.seq_scr, G.seq_ref, G.noRL_nil, G.noRL_cons, G.noR_non, G.noR_bl, G.noR_int, G.noR_str, G.noR_dic, G.noR_scr, G.noR_tup, G.noR_lst, G.isd_int, G.isd_intb, G.isd_bool, G.isd_boolb, G.isd_tup, G.isd_lst, G.isd_ref, G.live_lst, G.tgS_nm, G.tgS_tp2, List.getElem?_cons_zero, List.getElem?_cons_succ, List.set_cons_zero, List.set_cons_succ, List.length_cons, List.length_nil, List.nil_append, List.cons_append, Bool.and_true, Bool.true_and, Bool.and_self, Bool.not_true, Bool.not_false, decide_true, decide_false, Nat.reduceAdd, Int.reduceAdd, Int.reduceSub, Int.reduceMul, Int.reduceNeg, Int.cast_ofNat_Int, Int.natCast_zero, Int.natCast_one, eq_self, Int.reduceEq, Int.reduceLT, Int.reduceLE, G.wip_nil, G.wip_cons, Nat.reduceLeDiff, ↓G.e_sl, ↓G.e_pNo, ↓G.e_pSome, G.vI_i, ↓G.e_fgo_cons, ↓G.e_fgo_nil, G.kL_nx, G.kL_rt, G.kL_ex, G.kS_some, z1]
    · unfold e_cut_0
      simp -implicitDefEqProofs only [↓G.e_seq, ↓G.e_skip, ↓G.e_asg, ↓G.e_drop, ↓G.e_ret, ↓G.e_raise, ↓G.e_raiseN, ↓G.e_if, ↓G.e_val, ↓G.e_not, ↓G.e_or, ↓G.e_and, ↓G.e_xand, ↓G.e_xor, ↓G.e_xnot, ↓G.e_var, ↓G.e_c, ↓G.e_bin, ↓G.e_un, ↓G.e_chain, ↓G.e_nil, ↓G.e_cons, ↓G.e_tup, ↓G.e_lst, ↓G.e_call, ↓G.e_callM, ↓G.e_callP, ↓G.e_callO, ↓G.e_for, ↓G.e_itSeq, ↓G.e_itTup, ↓G.e_itR1, ↓G.e_itR2, G.kk_ok, G.kk_ex, G.kF_nx, G.kF_rt, G.kF_ex, G.kI_t, G.kI_f, G.kT_nm, G.kT_tp2, G.kT_ex, G.kB_bl, G.kV_some, G.kO_some, G.kFor_ok, G.nX_n, G.nX_i, G.vB_bl, G.vT_t, G.kP_rt, G.kP_nx, G.kP_ex, G.kQ_some, G.kM_rt, G.kM_nx, G.kM_ex, G.kPO_ex, G.res_bl, G.res_int, G.res_str, G.res_non, G.thr_e, G.ret_e, G.up_ok, G.up_ex, G.upO_ok, G.upO_ex, G.mkL_t, G.mkL_n, G.o_sub, G.o_lt, G.o_le, G.o_gt, G.o_ge, G.o_add, G.o_neg, G.o_isN, G.o_isNI, G.o_isNT, G.o_isNL, G.o_isNR, G.o_isNB, G.o_isNS, G.o_is, G.o_ixT, G.o_ixL, G.o_ixS, G.at_0, G.at_1, G.o_lenL, G.o_lenT, G.o_lenC, G.o_lenS, G.o_max2, G.o_min2, G.o_intB, G.o_intI, G.o_listL, G.o_listT, G.o_listC, G.o_tupL, G.o_eqIt, G.o_eqIf, G.seq_lst, G.seq_scr, G.seq_ref, G.noRL_nil, G.noRL_cons, G.noR_non, G.noR_bl, G.noR_int, G.noR_str, G.noR_dic, G.noR_scr, G.noR_tup, G.noR_lst, G.isd_int, G.isd_intb, G.isd_bool, G.isd_boolb, G.isd_tup, G.isd_lst, G.isd_ref, G.live_lst, G.tgS_nm, G.tgS_tp2, List.getElem?_cons_zero, List.getElem?_cons_succ, List.set_cons_zero, List.set_cons_succ, List.length_cons, List.length_nil, List.nil_append, List.cons_append, Bool.and_true, Bool.true_and, Bool.and_self, Bool.not_true, Bool.not_false, decide_true, decide_false, Nat.reduceAdd, Int.reduceAdd, Int.reduceSub, Int.reduceMul, Int.reduceNeg, Int.cast_ofNat_Int, Int.natCast_zero, Int.natCast_one, eq_self, Int.reduceEq, Int.reduceLT, Int.reduceLE, G.wip_nil, G.wip_cons, Nat.reduceLeDiff, ↓G.e_sl, ↓G.e_pNo, ↓G.e_pSome, G.vI_i, ↓G.e_fgo_cons, ↓G.e_fgo_nil, G.kL_nx, G.kL_rt, G.kL_ex, G.kS_some, szOk_small, Nat.reduceLeDiff]]
  show Rs.ok (D.lst _) cs = Rs.ok (D.lst _) cs
  congr 2
  unfold cutL layD
  rw [List.filter_map, List.map_map, List.map_map, List.map_map]
  have ef : L.filter ((fun d => match d with
    | .tup [.int a, .int b] => decide ((f : Int) ≤ a)
    | _ => false) ∘ fun p => D.tup [.int (p.1 : Nat), .int (p.2 : Nat)]) = L.filter fun p => decide (f ≤ p.1) := by
    refine List.filter_congr fun p _ => ?_
    show decide ((f : Int) ≤ (p.1 : Int)) = decide (f ≤ p.1)
    by_cases q : f ≤ p.1
    · rw [decide_eq_true q, decide_eq_true (by omega)]
    · rw [decide_eq_false q, decide_eq_false (by omega)]
  rw [ef]
  refine List.map_congr_left fun p hp => ?_
  rw [List.mem_filter, decide_eq_true_eq] at hp
  have r := rg p hp.1
  show D.tup [.int ((p.1 : Int) - (f : Nat)), .int ((p.2 : Int) - (f : Nat))] = D.tup [.int ((p.1 - f : Nat) : Int), .int ((p.2 - f : Nat) : Int)]
  rw [show (p.1 : Int) - (f : Nat) = ((p.1 - f : Nat) : Int) by omega, show (p.2 : Int) - (f : Nat) = ((p.2 - f : Nat) : Int) by omega]
theorem cut_ok {f m : Nat} {N : NatNet} (V : Valid m N) (hl : N.length ≤ 80) (h1 : 1 ≤ m) (h2 : m ≤ 64) (hf : f < m) : f_cut [.int (m : Nat), netD (natN N), .int (f : Nat), .int (m : Nat)] = .ok (netD (natN (cutN f N))) := by
  have nt := mnet_t V h1 h2 hl
  have eN := netD_N N
  obtain ⟨e', cs', h4, rfl, x5, x6, x7, x8, rfl⟩ := forGo_pre (live := liveOf (N.map layN) (.lst (N.map layN))) (t := .nm 5) (b := b_cut_0) (ys := N.map layN) (r := []) (env := [some (.int (m : Nat)), some (netD (natN N)), some (.int (f : Nat)), some (.int (m : Nat)), some (.ref 0), none, none, none, none]) (cs := [[]])
    (fun i env cs => cs = [(cutN f (N.take i)).map layN] ∧ ∃ x5 x6 x7 x8, env = [some (.int (m : Nat)), some (netD (natN N)), some (.int (f : Nat)), some (.int (m : Nat)), some (.ref 0), x5, x6, x7, x8]) (fun _ _ _ _ => rfl) (by
      rintro i x env cs hx ⟨rfl, x5, x6, x7, x8, rfl⟩
      rw [List.getElem?_map, Option.map_eq_some_iff] at hx
      obtain ⟨L, hL, rfl⟩ := hx
      have hm := List.mem_of_getElem? hL
      have lc := cut_lc (f := f) (m := m) (s0 := some (.int (m : Nat))) (s1 := some (netD (natN N))) (s4 := some (.ref 0)) (s6 := x6) (s7 := x7) (s8 := x8) (cs := [(cutN f (N.take i)).map layN]) (lay_64' V h2 L hm) (V.rg L hm)
      have lf := lay_nilf (cutL f L) [(cutN f (N.take i)).map layN]
      have ap := cApp_ok (cs := [(cutN f (N.take i)).map layN]) (i := 0) (layN (cutL f L)) rfl (by
        rw [List.length_map]
        have := cutN_len f (N.take i)
        rw [List.length_take] at this
        omega)
      have tk : cutN f (N.take (i + 1)) = cutN f (N.take i) ++ (if cutL f L = [] then [] else [cutL f L]) := by
        rw [take_succ hL]
        unfold cutN
        rw [List.map_append, List.filter_append]
        congr 1
        by_cases e : cutL f L = []
        · rw [if_pos e]
          show List.filter _ [cutL f L] = []
          rw [e]
          rfl
        · rw [if_neg e]
          show List.filter _ [cutL f L] = _
          cases h : cutL f L with
          | nil => exact absurd h e
          | cons => rfl
      refine ⟨_, rfl, [some (.int (m : Nat)), some (netD (natN N)), some (.int (f : Nat)), some (.int (m : Nat)), some (.ref 0), some (layN L), some (layN (cutL f L)), x7, x8], [(cutN f (N.take (i + 1))).map layN], ?_, rfl, _, _, _, _, rfl⟩
      rw [tk]
      unfold b_cut_0
      by_cases e : cutL f L = []
      · rw [e] at lc lf
        rw [if_pos e, e, List.append_nil]
        rw [decide_eq_true (by rfl : ([] : List (Nat × Nat)) = [])] at lf
        simp -implicitDefEqProofs only [↓G.e_seq, ↓G.e_skip, ↓G.e_asg, ↓G.e_drop, ↓G.e_ret, ↓G.e_raise, ↓G.e_raiseN, ↓G.e_if, ↓G.e_val, ↓G.e_not, ↓G.e_or, ↓G.e_and, ↓G.e_xand, ↓G.e_xor, ↓G.e_xnot, ↓G.e_var, ↓G.e_c, ↓G.e_bin, ↓G.e_un, ↓G.e_chain, ↓G.e_nil, ↓G.e_cons, ↓G.e_tup, ↓G.e_lst, ↓G.e_call, ↓G.e_callM, ↓G.e_callP, ↓G.e_callO, ↓G.e_for, ↓G.e_itSeq, ↓G.e_itTup, ↓G.e_itR1, ↓G.e_itR2, G.kk_ok, G.kk_ex, G.kF_nx, G.kF_rt, G.kF_ex, G.kI_t, G.kI_f, G.kT_nm, G.kT_tp2, G.kT_ex, G.kB_bl, G.kV_some, G.kO_some, G.kFor_ok, G.nX_n, G.nX_i, G.vB_bl, G.vT_t, G.kP_rt, G.kP_nx, G.kP_ex, G.kQ_some, G.kM_rt, G.kM_nx, G.kM_ex, G.kPO_ex, G.res_bl, G.res_int, G.res_str, G.res_non, G.thr_e, G.ret_e, G.up_ok, G.up_ex, G.upO_ok, G.upO_ex, G.mkL_t, G.mkL_n, G.o_sub, G.o_lt, G.o_le, G.o_gt, G.o_ge, G.o_add, G.o_neg, G.o_isN, G.o_isNI, G.o_isNT, G.o_isNL, G.o_isNR, G.o_isNB, G.o_isNS, G.o_is, G.o_ixT, G.o_ixL, G.o_ixS, G.at_0, G.at_1, G.o_lenL, G.o_lenT, G.o_lenC, G.o_lenS, G.o_max2, G.o_min2, G.o_intB, G.o_intI, G.o_listL, G.o_listT, G.o_listC, G.o_tupL, G.o_eqIt, G.o_eqIf, G.seq_lst, G.seq_scr, G.seq_ref, G.noRL_nil, G.noRL_cons, G.noR_non, G.noR_bl, G.noR_int, G.noR_str, G.noR_dic, G.noR_scr, G.noR_tup, G.noR_lst, G.isd_int, G.isd_intb, G.isd_bool, G.isd_boolb, G.isd_tup, G.isd_lst, G.isd_ref, G.live_lst, G.tgS_nm, G.tgS_tp2, List.getElem?_cons_zero, List.getElem?_cons_succ, List.set_cons_zero, List.set_cons_succ, List.length_cons, List.length_nil, List.nil_append, List.cons_append, Bool.and_true, Bool.true_and, Bool.and_self, Bool.not_true, Bool.not_false, decide_true, decide_false, Nat.reduceAdd, Int.reduceAdd, Int.reduceSub, Int.reduceMul, Int.reduceNeg, Int.cast_ofNat_Int, Int.natCast_zero, Int.natCast_one, eq_self, Int.reduceEq, Int.reduceLT, Int.reduceLE, lc, lf, Bool.not_true, szOk_small, Nat.zero_le]
      · rw [decide_eq_false e] at lf
        rw [if_neg e, List.map_append]
        simp -implicitDefEqProofs only [↓G.e_seq, ↓G.e_skip, ↓G.e_asg, ↓G.e_drop, ↓G.e_ret, ↓G.e_raise, ↓G.e_raiseN, ↓G.e_if, ↓G.e_val, ↓G.e_not, ↓G.e_or, ↓G.e_and, ↓G.e_xand, ↓G.e_xor, ↓G.e_xnot, ↓G.e_var, ↓G.e_c, ↓G.e_bin, ↓G.e_un, ↓G.e_chain, ↓G.e_nil, ↓G.e_cons, ↓G.e_tup, ↓G.e_lst, ↓G.e_call, ↓G.e_callM, ↓G.e_callP, ↓G.e_callO, ↓G.e_for, ↓G.e_itSeq, ↓G.e_itTup, ↓G.e_itR1, ↓G.e_itR2, G.kk_ok, G.kk_ex, G.kF_nx, G.kF_rt, G.kF_ex, G.kI_t, G.kI_f, G.kT_nm, G.kT_tp2, G.kT_ex, G.kB_bl, G.kV_some, G.kO_some, G.kFor_ok, G.nX_n, G.nX_i, G.vB_bl, G.vT_t, G.kP_rt, G.kP_nx, G.kP_ex, G.kQ_some, G.kM_rt, G.kM_nx, G.kM_ex, G.kPO_ex, G.res_bl, G.res_int, G.res_str, G.res_non, G.thr_e, G.ret_e, G.up_ok, G.up_ex, G.upO_ok, G.upO_ex, G.mkL_t, G.mkL_n, G.o_sub, G.o_lt, G.o_le, G.o_gt, G.o_ge, G.o_add, G.o_neg, G.o_isN, G.o_isNI, G.o_isNT, G.o_isNL, G.o_isNR, G.o_isNB, G.o_isNS, G.o_is, G.o_ixT, G.o_ixL, G.o_ixS, G.at_0, G.at_1, G.o_lenL, G.o_lenT, G.o_lenC, G.o_lenS, G.o_max2, G.o_min2, G.o_intB, G.o_intI, G.o_listL, G.o_listT, G.o_listC, G.o_tupL, G.o_eqIt, G.o_eqIf, G.seq_lst, G.seq_scr, G.seq_ref, G.noRL_nil, G.noRL_cons, G.noR_non, G.noR_bl, G.noR_int, G.noR_str, G.noR_dic, G.noR_scr, G.noR_tup, G.noR_lst, G.isd_int, G.isd_intb, G.isd_bool, G.isd_boolb, G.isd_tup, G.isd_lst, G.isd_ref, G.live_lst, G.tgS_nm, G.tgS_tp2, List.getElem?_cons_zero, List.getElem?_cons_succ, List.set_cons_zero, List.set_cons_succ, List.length_cons, List.length_nil, List.nil_append, List.cons_append, Bool.and_true, Bool.true_and, Bool.and_self, Bool.not_true, Bool.not_false, decide_true, decide_false, Nat.reduceAdd, Int.reduceAdd, Int.reduceSub, Int.reduceMul, Int.reduceNeg, Int.cast_ofNat_Int, Int.natCast_zero, Int.natCast_one, eq_self, Int.reduceEq, Int.reduceLT, Int.reduceLE, lc, lf, Bool.not_false, szOk_small, Nat.zero_le, ↓e_app, kRef_r, ap]
        rfl) ⟨rfl, none, none, none, none, rfl⟩
  rw [List.append_nil, forGo_end rfl] at h4
  rw [List.length_map, List.take_length] at h4
  have its : ∀ cs', seqOf cs' (netD (natN N)) = some (N.map layN) := fun cs' => by rw [eN]; rfl
  have lv : liveOf (N.map layN) (netD (natN N)) = liveOf (N.map layN) (.lst (N.map layN)) := by rw [eN]
  rw [F_cut]
  unfold c_cut
  simp -implicitDefEqProofs only [↓G.e_seq, ↓G.e_skip, ↓G.e_asg, ↓G.e_drop, ↓G.e_ret, ↓G.e_raise, ↓G.e_raiseN, ↓G.e_if, ↓G.e_val, ↓G.e_not, ↓G.e_or, ↓G.e_and, ↓G.e_xand, ↓G.e_xor, ↓G.e_xnot, ↓G.e_var, ↓G.e_c, ↓G.e_bin, ↓G.e_un, ↓G.e_chain, ↓G.e_nil, ↓G.e_cons, ↓G.e_tup, ↓G.e_lst, ↓G.e_call, ↓G.e_callM, ↓G.e_callP, ↓G.e_callO, ↓G.e_for, ↓G.e_itSeq, ↓G.e_itTup, ↓G.e_itR1, ↓G.e_itR2, G.kk_ok, G.kk_ex, G.kF_nx, G.kF_rt, G.kF_ex, G.kI_t, G.kI_f, G.kT_nm, G.kT_tp2, G.kT_ex, G.kB_bl, G.kV_some, G.kO_some, G.kFor_ok, G.nX_n, G.nX_i, G.vB_bl, G.vT_t, G.kP_rt, G.kP_nx, G.kP_ex, G.kQ_some, G.kM_rt, G.kM_nx, G.kM_ex, G.kPO_ex, G.res_bl, G.res_int, G.res_str, G.res_non, G.thr_e, G.ret_e, G.up_ok, G.up_ex, G.upO_ok, G.upO_ex, G.mkL_t, G.mkL_n, G.o_sub, G.o_lt, G.o_le, G.o_gt, G.o_ge, G.o_add, G.o_neg, G.o_isN, G.o_isNI, G.o_isNT, G.o_isNL, G.o_isNR, G.o_isNB, G.o_isNS, G.o_is, G.o_ixT, G.o_ixL, G.o_ixS, G.at_0, G.at_1, G.o_lenL, G.o_lenT, G.o_lenC, G.o_lenS, G.o_max2, G.o_min2, G.o_intB, G.o_intI, G.o_listL, G.o_listT, G.o_listC, G.o_tupL, G.o_eqIt, G.o_eqIf, G.seq_lst, G.seq_scr, G.seq_ref, G.noRL_nil, G.noRL_cons, G.noR_non, G.noR_bl, G.noR_int, G.noR_str, G.noR_dic, G.noR_scr, G.noR_tup, G.noR_lst, G.isd_int, G.isd_intb, G.isd_bool, G.isd_boolb, G.isd_tup, G.isd_lst, G.isd_ref, G.live_lst, G.tgS_nm, G.tgS_tp2, List.getElem?_cons_zero, List.getElem?_cons_succ, List.set_cons_zero, List.set_cons_succ, List.length_cons, List.length_nil, List.nil_append, List.cons_append, Bool.and_true, Bool.true_and, Bool.and_self, Bool.not_true, Bool.not_false, decide_true, decide_false, Nat.reduceAdd, Int.reduceAdd, Int.reduceSub, Int.reduceMul, Int.reduceNeg, Int.cast_ofNat_Int, Int.natCast_zero, Int.natCast_one, eq_self, Int.reduceEq, Int.reduceLT, Int.reduceLE, noR_net, nt, among_t (i := (f : Nat)) (a := 0) (b := (m : Int) - 1) (by omega) (by omega), among_t (i := (m : Nat)) (a := (f : Int) + 1) (b := (m : Nat)) (by omega) (by omega), szOk_small, Nat.zero_le, l_cut_0, its, lv, h4, res_cellN (cs := [(cutN f N).map layN]) (i := 0) (N := cutN f N) rfl]
theorem made_ok {n : Nat} (h1 : 1 ≤ n) (h2 : n ≤ 32) (w c : Int) : ∃ N : NatNet, f__law_made [.int w, .int c, .int (n : Nat)] = .ok (netD (natN N)) ∧ Good n N ∧ N.length ≤ 70 := by
  rw [F__law_made]
  unfold c__law_made
  by_cases w0 : w = 0
  · refine ⟨oneN n, ?_, one_good h1, by unfold oneN; rw [List.length_map, List.length_range]; omega⟩
    simp -implicitDefEqProofs only [↓G.e_seq, ↓G.e_skip, ↓G.e_asg, ↓G.e_drop, ↓G.e_ret, ↓G.e_raise, ↓G.e_raiseN, ↓G.e_if, ↓G.e_val, ↓G.e_not, ↓G.e_or, ↓G.e_and, ↓G.e_xand, ↓G.e_xor, ↓G.e_xnot, ↓G.e_var, ↓G.e_c, ↓G.e_bin, ↓G.e_un, ↓G.e_chain, ↓G.e_nil, ↓G.e_cons, ↓G.e_tup, ↓G.e_lst, ↓G.e_call, ↓G.e_callM, ↓G.e_callP, ↓G.e_callO, ↓G.e_for, ↓G.e_itSeq, ↓G.e_itTup, ↓G.e_itR1, ↓G.e_itR2, G.kk_ok, G.kk_ex, G.kF_nx, G.kF_rt, G.kF_ex, G.kI_t, G.kI_f, G.kT_nm, G.kT_tp2, G.kT_ex, G.kB_bl, G.kV_some, G.kO_some, G.kFor_ok, G.nX_n, G.nX_i, G.vB_bl, G.vT_t, G.kP_rt, G.kP_nx, G.kP_ex, G.kQ_some, G.kM_rt, G.kM_nx, G.kM_ex, G.kPO_ex, G.res_bl, G.res_int, G.res_str, G.res_non, G.thr_e, G.ret_e, G.up_ok, G.up_ex, G.upO_ok, G.upO_ex, G.mkL_t, G.mkL_n, G.o_sub, G.o_lt, G.o_le, G.o_gt, G.o_ge, G.o_add, G.o_neg, G.o_isN, G.o_isNI, G.o_isNT, G.o_isNL, G.o_isNR, G.o_isNB, G.o_isNS, G.o_is, G.o_ixT, G.o_ixL, G.o_ixS, G.at_0, G.at_1, G.o_lenL, G.o_lenT, G.o_lenC, G.o_lenS, G.o_max2, G.o_min2, G.o_intB, G.o_intI, G.o_listL, G.o_listT, G.o_listC, G.o_tupL, G.o_eqIt, G.o_eqIf, G.seq_lst, G.seq_scr, G.seq_ref, G.noRL_nil, G.noRL_cons, G.noR_non, G.noR_bl, G.noR_int, G.noR_str, G.noR_dic, G.noR_scr, G.noR_tup, G.noR_lst, G.isd_int, G.isd_intb, G.isd_bool, G.isd_boolb, G.isd_tup, G.isd_lst, G.isd_ref, G.live_lst, G.tgS_nm, G.tgS_tp2, List.getElem?_cons_zero, List.getElem?_cons_succ, List.set_cons_zero, List.set_cons_succ, List.length_cons, List.length_nil, List.nil_append, List.cons_append, Bool.and_true, Bool.true_and, Bool.and_self, Bool.not_true, Bool.not_false, decide_true, decide_false, Nat.reduceAdd, Int.reduceAdd, Int.reduceSub, Int.reduceMul, Int.reduceNeg, Int.cast_ofNat_Int, Int.natCast_zero, Int.natCast_one, eq_self, Int.reduceEq, Int.reduceLT, Int.reduceLE, w0, one_ok h1 (by omega), res_n [] (noR_net (natN (oneN n)))]
  by_cases w1 : w = 1
  · refine ⟨dblN n 1 7, ?_, dbl_good (by omega), by have := dbl_len (n := n) 7 1; omega⟩
    simp -implicitDefEqProofs only [↓G.e_seq, ↓G.e_skip, ↓G.e_asg, ↓G.e_drop, ↓G.e_ret, ↓G.e_raise, ↓G.e_raiseN, ↓G.e_if, ↓G.e_val, ↓G.e_not, ↓G.e_or, ↓G.e_and, ↓G.e_xand, ↓G.e_xor, ↓G.e_xnot, ↓G.e_var, ↓G.e_c, ↓G.e_bin, ↓G.e_un, ↓G.e_chain, ↓G.e_nil, ↓G.e_cons, ↓G.e_tup, ↓G.e_lst, ↓G.e_call, ↓G.e_callM, ↓G.e_callP, ↓G.e_callO, ↓G.e_for, ↓G.e_itSeq, ↓G.e_itTup, ↓G.e_itR1, ↓G.e_itR2, G.kk_ok, G.kk_ex, G.kF_nx, G.kF_rt, G.kF_ex, G.kI_t, G.kI_f, G.kT_nm, G.kT_tp2, G.kT_ex, G.kB_bl, G.kV_some, G.kO_some, G.kFor_ok, G.nX_n, G.nX_i, G.vB_bl, G.vT_t, G.kP_rt, G.kP_nx, G.kP_ex, G.kQ_some, G.kM_rt, G.kM_nx, G.kM_ex, G.kPO_ex, G.res_bl, G.res_int, G.res_str, G.res_non, G.thr_e, G.ret_e, G.up_ok, G.up_ex, G.upO_ok, G.upO_ex, G.mkL_t, G.mkL_n, G.o_sub, G.o_lt, G.o_le, G.o_gt, G.o_ge, G.o_add, G.o_neg, G.o_isN, G.o_isNI, G.o_isNT, G.o_isNL, G.o_isNR, G.o_isNB, G.o_isNS, G.o_is, G.o_ixT, G.o_ixL, G.o_ixS, G.at_0, G.at_1, G.o_lenL, G.o_lenT, G.o_lenC, G.o_lenS, G.o_max2, G.o_min2, G.o_intB, G.o_intI, G.o_listL, G.o_listT, G.o_listC, G.o_tupL, G.o_eqIt, G.o_eqIf, G.seq_lst, G.seq_scr, G.seq_ref, G.noRL_nil, G.noRL_cons, G.noR_non, G.noR_bl, G.noR_int, G.noR_str, G.noR_dic, G.noR_scr, G.noR_tup, G.noR_lst, G.isd_int, G.isd_intb, G.isd_bool, G.isd_boolb, G.isd_tup, G.isd_lst, G.isd_ref, G.live_lst, G.tgS_nm, G.tgS_tp2, List.getElem?_cons_zero, List.getElem?_cons_succ, List.set_cons_zero, List.set_cons_succ, List.length_cons, List.length_nil, List.nil_append, List.cons_append, Bool.and_true, Bool.true_and, Bool.and_self, Bool.not_true, Bool.not_false, decide_true, decide_false, Nat.reduceAdd, Int.reduceAdd, Int.reduceSub, Int.reduceMul, Int.reduceNeg, Int.cast_ofNat_Int, Int.natCast_zero, Int.natCast_one, eq_self, Int.reduceEq, Int.reduceLT, Int.reduceLE, w1, dbl_ok h1 (by omega), res_n [] (noR_net (natN (dblN n 1 7)))]
  by_cases w2 : w = 2
  · refine ⟨halN 7 n, ?_, hal_good h1 (by omega), by have := hal_len 7 n; omega⟩
    simp -implicitDefEqProofs only [↓G.e_seq, ↓G.e_skip, ↓G.e_asg, ↓G.e_drop, ↓G.e_ret, ↓G.e_raise, ↓G.e_raiseN, ↓G.e_if, ↓G.e_val, ↓G.e_not, ↓G.e_or, ↓G.e_and, ↓G.e_xand, ↓G.e_xor, ↓G.e_xnot, ↓G.e_var, ↓G.e_c, ↓G.e_bin, ↓G.e_un, ↓G.e_chain, ↓G.e_nil, ↓G.e_cons, ↓G.e_tup, ↓G.e_lst, ↓G.e_call, ↓G.e_callM, ↓G.e_callP, ↓G.e_callO, ↓G.e_for, ↓G.e_itSeq, ↓G.e_itTup, ↓G.e_itR1, ↓G.e_itR2, G.kk_ok, G.kk_ex, G.kF_nx, G.kF_rt, G.kF_ex, G.kI_t, G.kI_f, G.kT_nm, G.kT_tp2, G.kT_ex, G.kB_bl, G.kV_some, G.kO_some, G.kFor_ok, G.nX_n, G.nX_i, G.vB_bl, G.vT_t, G.kP_rt, G.kP_nx, G.kP_ex, G.kQ_some, G.kM_rt, G.kM_nx, G.kM_ex, G.kPO_ex, G.res_bl, G.res_int, G.res_str, G.res_non, G.thr_e, G.ret_e, G.up_ok, G.up_ex, G.upO_ok, G.upO_ex, G.mkL_t, G.mkL_n, G.o_sub, G.o_lt, G.o_le, G.o_gt, G.o_ge, G.o_add, G.o_neg, G.o_isN, G.o_isNI, G.o_isNT, G.o_isNL, G.o_isNR, G.o_isNB, G.o_isNS, G.o_is, G.o_ixT, G.o_ixL, G.o_ixS, G.at_0, G.at_1, G.o_lenL, G.o_lenT, G.o_lenC, G.o_lenS, G.o_max2, G.o_min2, G.o_intB, G.o_intI, G.o_listL, G.o_listT, G.o_listC, G.o_tupL, G.o_eqIt, G.o_eqIf, G.seq_lst, G.seq_scr, G.seq_ref, G.noRL_nil, G.noRL_cons, G.noR_non, G.noR_bl, G.noR_int, G.noR_str, G.noR_dic, G.noR_scr, G.noR_tup, G.noR_lst, G.isd_int, G.isd_intb, G.isd_bool, G.isd_boolb, G.isd_tup, G.isd_lst, G.isd_ref, G.live_lst, G.tgS_nm, G.tgS_tp2, List.getElem?_cons_zero, List.getElem?_cons_succ, List.set_cons_zero, List.set_cons_succ, List.length_cons, List.length_nil, List.nil_append, List.cons_append, Bool.and_true, Bool.true_and, Bool.and_self, Bool.not_true, Bool.not_false, decide_true, decide_false, Nat.reduceAdd, Int.reduceAdd, Int.reduceSub, Int.reduceMul, Int.reduceNeg, Int.cast_ofNat_Int, Int.natCast_zero, Int.natCast_one, eq_self, Int.reduceEq, Int.reduceLT, Int.reduceLE, w2, hal_ok h1 (by omega), res_n [] (noR_net (natN (halN 7 n)))]
  by_cases w3 : w = 3
  · refine ⟨paiN 7 n, ?_, pai_good h1 (by omega), by have := pai_len 7 n; omega⟩
    simp -implicitDefEqProofs only [↓G.e_seq, ↓G.e_skip, ↓G.e_asg, ↓G.e_drop, ↓G.e_ret, ↓G.e_raise, ↓G.e_raiseN, ↓G.e_if, ↓G.e_val, ↓G.e_not, ↓G.e_or, ↓G.e_and, ↓G.e_xand, ↓G.e_xor, ↓G.e_xnot, ↓G.e_var, ↓G.e_c, ↓G.e_bin, ↓G.e_un, ↓G.e_chain, ↓G.e_nil, ↓G.e_cons, ↓G.e_tup, ↓G.e_lst, ↓G.e_call, ↓G.e_callM, ↓G.e_callP, ↓G.e_callO, ↓G.e_for, ↓G.e_itSeq, ↓G.e_itTup, ↓G.e_itR1, ↓G.e_itR2, G.kk_ok, G.kk_ex, G.kF_nx, G.kF_rt, G.kF_ex, G.kI_t, G.kI_f, G.kT_nm, G.kT_tp2, G.kT_ex, G.kB_bl, G.kV_some, G.kO_some, G.kFor_ok, G.nX_n, G.nX_i, G.vB_bl, G.vT_t, G.kP_rt, G.kP_nx, G.kP_ex, G.kQ_some, G.kM_rt, G.kM_nx, G.kM_ex, G.kPO_ex, G.res_bl, G.res_int, G.res_str, G.res_non, G.thr_e, G.ret_e, G.up_ok, G.up_ex, G.upO_ok, G.upO_ex, G.mkL_t, G.mkL_n, G.o_sub, G.o_lt, G.o_le, G.o_gt, G.o_ge, G.o_add, G.o_neg, G.o_isN, G.o_isNI, G.o_isNT, G.o_isNL, G.o_isNR, G.o_isNB, G.o_isNS, G.o_is, G.o_ixT, G.o_ixL, G.o_ixS, G.at_0, G.at_1, G.o_lenL, G.o_lenT, G.o_lenC, G.o_lenS, G.o_max2, G.o_min2, G.o_intB, G.o_intI, G.o_listL, G.o_listT, G.o_listC, G.o_tupL, G.o_eqIt, G.o_eqIf, G.seq_lst, G.seq_scr, G.seq_ref, G.noRL_nil, G.noRL_cons, G.noR_non, G.noR_bl, G.noR_int, G.noR_str, G.noR_dic, G.noR_scr, G.noR_tup, G.noR_lst, G.isd_int, G.isd_intb, G.isd_bool, G.isd_boolb, G.isd_tup, G.isd_lst, G.isd_ref, G.live_lst, G.tgS_nm, G.tgS_tp2, List.getElem?_cons_zero, List.getElem?_cons_succ, List.set_cons_zero, List.set_cons_succ, List.length_cons, List.length_nil, List.nil_append, List.cons_append, Bool.and_true, Bool.true_and, Bool.and_self, Bool.not_true, Bool.not_false, decide_true, decide_false, Nat.reduceAdd, Int.reduceAdd, Int.reduceSub, Int.reduceMul, Int.reduceNeg, Int.cast_ofNat_Int, Int.natCast_zero, Int.natCast_one, eq_self, Int.reduceEq, Int.reduceLT, Int.reduceLE, w3, pai_ok h1 (by omega), res_n [] (noR_net (natN (paiN 7 n)))]
  have mx : max (1 : Int) ((n : Int) - 1) = ((max 1 (n - 1) : Nat) : Int) := by omega
  have mpos : 1 ≤ max 1 (n - 1) := Nat.le_max_left ..
  have mle : max 1 (n - 1) ≤ 31 := by omega
  have a1 : 0 ≤ c % ((max 1 (n - 1) : Nat) : Int) := Int.emod_nonneg _ (by omega)
  have a2 : c % ((max 1 (n - 1) : Nat) : Int) < ((max 1 (n - 1) : Nat) : Int) := Int.emod_lt_of_pos _ (by omega)
  obtain ⟨f, hf⟩ : ∃ f : Nat, 1 + c % ((max 1 (n - 1) : Nat) : Int) = (f : Int) := ⟨(1 + c % ((max 1 (n - 1) : Nat) : Int)).toNat, by omega⟩
  have fl : 1 ≤ f := by omega
  have fu : f ≤ max 1 (n - 1) := by omega
  have om := o_mod (i := c) (j := ((max 1 (n - 1) : Nat) : Int)) (by omega)
  generalize max 1 (n - 1) = M at *
  by_cases w4 : w = 4 ∧ 1 < n
  · obtain ⟨w4, n1⟩ := w4
    subst w4
    have hM : M ≤ n - 1 := by omega
    have z : ((1 : Int) < (n : Int)) ↔ True := by simp only [iff_true]; omega
    have hg : (n : Int) - (f : Int) = ((n - f : Nat) : Int) := by omega
    obtain ⟨N, e, V, hl, ht⟩ := telling_net (c / 64) (n := n - f) (by omega) (by omega)
    have hh := pai_ok (n := f) (by omega) (by omega)
    have gh := pai_good (k := 7) (n := f) (by omega) (by omega)
    have lh := pai_len 7 f
    have be := bside_ok (n := f) (m := n - f) gh.V V (by omega) (by omega) (by omega) (by omega) (by omega)
    have bg := beh_good (n := f) (m := n - f) (by omega) (by omega) gh ⟨V, ht⟩
    rw [show f + (n - f) = n by omega] at bg
    refine ⟨_, ?_, bg, by rw [beh_len]; omega⟩
    simp -implicitDefEqProofs only [↓G.e_seq, ↓G.e_skip, ↓G.e_asg, ↓G.e_drop, ↓G.e_ret, ↓G.e_raise, ↓G.e_raiseN, ↓G.e_if, ↓G.e_val, ↓G.e_not, ↓G.e_or, ↓G.e_and, ↓G.e_xand, ↓G.e_xor, ↓G.e_xnot, ↓G.e_var, ↓G.e_c, ↓G.e_bin, ↓G.e_un, ↓G.e_chain, ↓G.e_nil, ↓G.e_cons, ↓G.e_tup, ↓G.e_lst, ↓G.e_call, ↓G.e_callM, ↓G.e_callP, ↓G.e_callO, ↓G.e_for, ↓G.e_itSeq, ↓G.e_itTup, ↓G.e_itR1, ↓G.e_itR2, G.kk_ok, G.kk_ex, G.kF_nx, G.kF_rt, G.kF_ex, G.kI_t, G.kI_f, G.kT_nm, G.kT_tp2, G.kT_ex, G.kB_bl, G.kV_some, G.kO_some, G.kFor_ok, G.nX_n, G.nX_i, G.vB_bl, G.vT_t, G.kP_rt, G.kP_nx, G.kP_ex, G.kQ_some, G.kM_rt, G.kM_nx, G.kM_ex, G.kPO_ex, G.res_bl, G.res_int, G.res_str, G.res_non, G.thr_e, G.ret_e, G.up_ok, G.up_ex, G.upO_ok, G.upO_ex, G.mkL_t, G.mkL_n, G.o_sub, G.o_lt, G.o_le, G.o_gt, G.o_ge, G.o_add, G.o_neg, G.o_isN, G.o_isNI, G.o_isNT, G.o_isNL, G.o_isNR, G.o_isNB, G.o_isNS, G.o_is, G.o_ixT, G.o_ixL, G.o_ixS, G.at_0, G.at_1, G.o_lenL, G.o_lenT, G.o_lenC, G.o_lenS, G.o_max2, G.o_min2, G.o_intB, G.o_intI, G.o_listL, G.o_listT, G.o_listC, G.o_tupL, G.o_eqIt, G.o_eqIf, G.seq_lst, G.seq_scr, G.seq_ref, G.noRL_nil, G.noRL_cons, G.noR_non, G.noR_bl, G.noR_int, G.noR_str, G.noR_dic, G.noR_scr, G.noR_tup, G.noR_lst, G.isd_int, G.isd_intb, G.isd_bool, G.isd_boolb, G.isd_tup, G.isd_lst, G.isd_ref, G.live_lst, G.tgS_nm, G.tgS_tp2, List.getElem?_cons_zero, List.getElem?_cons_succ, List.set_cons_zero, List.set_cons_succ, List.length_cons, List.length_nil, List.nil_append, List.cons_append, Bool.and_true, Bool.true_and, Bool.and_self, Bool.not_true, Bool.not_false, decide_true, decide_false, Nat.reduceAdd, Int.reduceAdd, Int.reduceSub, Int.reduceMul, Int.reduceNeg, Int.cast_ofNat_Int, Int.natCast_zero, Int.natCast_one, eq_self, Int.reduceEq, Int.reduceLT, Int.reduceLE, mx, om, hf, z, o_div (i := c) (j := 64) (by decide) (by decide), e, hg, hh, noR_net, be, res_n [] (noR_net (natN (behN f (n - f) (paiN 7 f) N)))]
  by_cases w5 : w = 5
  · subst w5
    have hg : (n : Int) + (f : Int) = ((n + f : Nat) : Int) := by omega
    obtain ⟨N, e, V, hl, ht⟩ := telling_net c (n := n + f) (by omega) (by omega)
    have cu := cut_ok (f := f) (m := n + f) V (by omega) (by omega) (by omega) (by omega)
    have cg := cut_good (f := f) (m := n + f) (by omega) ⟨V, ht⟩
    rw [show n + f - f = n by omega] at cg
    have cl := cutN_len f N
    refine ⟨_, ?_, cg, by omega⟩
    simp -implicitDefEqProofs only [↓G.e_seq, ↓G.e_skip, ↓G.e_asg, ↓G.e_drop, ↓G.e_ret, ↓G.e_raise, ↓G.e_raiseN, ↓G.e_if, ↓G.e_val, ↓G.e_not, ↓G.e_or, ↓G.e_and, ↓G.e_xand, ↓G.e_xor, ↓G.e_xnot, ↓G.e_var, ↓G.e_c, ↓G.e_bin, ↓G.e_un, ↓G.e_chain, ↓G.e_nil, ↓G.e_cons, ↓G.e_tup, ↓G.e_lst, ↓G.e_call, ↓G.e_callM, ↓G.e_callP, ↓G.e_callO, ↓G.e_for, ↓G.e_itSeq, ↓G.e_itTup, ↓G.e_itR1, ↓G.e_itR2, G.kk_ok, G.kk_ex, G.kF_nx, G.kF_rt, G.kF_ex, G.kI_t, G.kI_f, G.kT_nm, G.kT_tp2, G.kT_ex, G.kB_bl, G.kV_some, G.kO_some, G.kFor_ok, G.nX_n, G.nX_i, G.vB_bl, G.vT_t, G.kP_rt, G.kP_nx, G.kP_ex, G.kQ_some, G.kM_rt, G.kM_nx, G.kM_ex, G.kPO_ex, G.res_bl, G.res_int, G.res_str, G.res_non, G.thr_e, G.ret_e, G.up_ok, G.up_ex, G.upO_ok, G.upO_ex, G.mkL_t, G.mkL_n, G.o_sub, G.o_lt, G.o_le, G.o_gt, G.o_ge, G.o_add, G.o_neg, G.o_isN, G.o_isNI, G.o_isNT, G.o_isNL, G.o_isNR, G.o_isNB, G.o_isNS, G.o_is, G.o_ixT, G.o_ixL, G.o_ixS, G.at_0, G.at_1, G.o_lenL, G.o_lenT, G.o_lenC, G.o_lenS, G.o_max2, G.o_min2, G.o_intB, G.o_intI, G.o_listL, G.o_listT, G.o_listC, G.o_tupL, G.o_eqIt, G.o_eqIf, G.seq_lst, G.seq_scr, G.seq_ref, G.noRL_nil, G.noRL_cons, G.noR_non, G.noR_bl, G.noR_int, G.noR_str, G.noR_dic, G.noR_scr, G.noR_tup, G.noR_lst, G.isd_int, G.isd_intb, G.isd_bool, G.isd_boolb, G.isd_tup, G.isd_lst, G.isd_ref, G.live_lst, G.tgS_nm, G.tgS_tp2, List.getElem?_cons_zero, List.getElem?_cons_succ, List.set_cons_zero, List.set_cons_succ, List.length_cons, List.length_nil, List.nil_append, List.cons_append, Bool.and_true, Bool.true_and, Bool.and_self, Bool.not_true, Bool.not_false, decide_true, decide_false, Nat.reduceAdd, Int.reduceAdd, Int.reduceSub, Int.reduceMul, Int.reduceNeg, Int.cast_ofNat_Int, Int.natCast_zero, Int.natCast_one, eq_self, Int.reduceEq, Int.reduceLT, Int.reduceLE, mx, om, hf, hg, e, noR_net, cu, res_n [] (noR_net (natN (cutN f N)))]
  obtain ⟨N, e, V, hl, ht⟩ := telling_net c h1 (by omega)
  refine ⟨N, ?_, ⟨V, ht⟩, by omega⟩
  by_cases q4 : w = 4
  · have z : ((1 : Int) < (n : Int)) ↔ False := by simp only [iff_false]; omega
    subst q4
    simp -implicitDefEqProofs only [↓G.e_seq, ↓G.e_skip, ↓G.e_asg, ↓G.e_drop, ↓G.e_ret, ↓G.e_raise, ↓G.e_raiseN, ↓G.e_if, ↓G.e_val, ↓G.e_not, ↓G.e_or, ↓G.e_and, ↓G.e_xand, ↓G.e_xor, ↓G.e_xnot, ↓G.e_var, ↓G.e_c, ↓G.e_bin, ↓G.e_un, ↓G.e_chain, ↓G.e_nil, ↓G.e_cons, ↓G.e_tup, ↓G.e_lst, ↓G.e_call, ↓G.e_callM, ↓G.e_callP, ↓G.e_callO, ↓G.e_for, ↓G.e_itSeq, ↓G.e_itTup, ↓G.e_itR1, ↓G.e_itR2, G.kk_ok, G.kk_ex, G.kF_nx, G.kF_rt, G.kF_ex, G.kI_t, G.kI_f, G.kT_nm, G.kT_tp2, G.kT_ex, G.kB_bl, G.kV_some, G.kO_some, G.kFor_ok, G.nX_n, G.nX_i, G.vB_bl, G.vT_t, G.kP_rt, G.kP_nx, G.kP_ex, G.kQ_some, G.kM_rt, G.kM_nx, G.kM_ex, G.kPO_ex, G.res_bl, G.res_int, G.res_str, G.res_non, G.thr_e, G.ret_e, G.up_ok, G.up_ex, G.upO_ok, G.upO_ex, G.mkL_t, G.mkL_n, G.o_sub, G.o_lt, G.o_le, G.o_gt, G.o_ge, G.o_add, G.o_neg, G.o_isN, G.o_isNI, G.o_isNT, G.o_isNL, G.o_isNR, G.o_isNB, G.o_isNS, G.o_is, G.o_ixT, G.o_ixL, G.o_ixS, G.at_0, G.at_1, G.o_lenL, G.o_lenT, G.o_lenC, G.o_lenS, G.o_max2, G.o_min2, G.o_intB, G.o_intI, G.o_listL, G.o_listT, G.o_listC, G.o_tupL, G.o_eqIt, G.o_eqIf, G.seq_lst, G.seq_scr, G.seq_ref, G.noRL_nil, G.noRL_cons, G.noR_non, G.noR_bl, G.noR_int, G.noR_str, G.noR_dic, G.noR_scr, G.noR_tup, G.noR_lst, G.isd_int, G.isd_intb, G.isd_bool, G.isd_boolb, G.isd_tup, G.isd_lst, G.isd_ref, G.live_lst, G.tgS_nm, G.tgS_tp2, List.getElem?_cons_zero, List.getElem?_cons_succ, List.set_cons_zero, List.set_cons_succ, List.length_cons, List.length_nil, List.nil_append, List.cons_append, Bool.and_true, Bool.true_and, Bool.and_self, Bool.not_true, Bool.not_false, decide_true, decide_false, Nat.reduceAdd, Int.reduceAdd, Int.reduceSub, Int.reduceMul, Int.reduceNeg, Int.cast_ofNat_Int, Int.natCast_zero, Int.natCast_one, eq_self, Int.reduceEq, Int.reduceLT, Int.reduceLE, mx, om, hf, z, e, res_n [] (noR_net (natN N))]
  · simp -implicitDefEqProofs only [↓G.e_seq, ↓G.e_skip, ↓G.e_asg, ↓G.e_drop, ↓G.e_ret, ↓G.e_raise, ↓G.e_raiseN, ↓G.e_if, ↓G.e_val, ↓G.e_not, ↓G.e_or, ↓G.e_and, ↓G.e_xand, ↓G.e_xor, ↓G.e_xnot, ↓G.e_var, ↓G.e_c, ↓G.e_bin, ↓G.e_un, ↓G.e_chain, ↓G.e_nil, ↓G.e_cons, ↓G.e_tup, ↓G.e_lst, ↓G.e_call, ↓G.e_callM, ↓G.e_callP, ↓G.e_callO, ↓G.e_for, ↓G.e_itSeq, ↓G.e_itTup, ↓G.e_itR1, ↓G.e_itR2, G.kk_ok, G.kk_ex, G.kF_nx, G.kF_rt, G.kF_ex, G.kI_t, G.kI_f, G.kT_nm, G.kT_tp2, G.kT_ex, G.kB_bl, G.kV_some, G.kO_some, G.kFor_ok, G.nX_n, G.nX_i, G.vB_bl, G.vT_t, G.kP_rt, G.kP_nx, G.kP_ex, G.kQ_some, G.kM_rt, G.kM_nx, G.kM_ex, G.kPO_ex, G.res_bl, G.res_int, G.res_str, G.res_non, G.thr_e, G.ret_e, G.up_ok, G.up_ex, G.upO_ok, G.upO_ex, G.mkL_t, G.mkL_n, G.o_sub, G.o_lt, G.o_le, G.o_gt, G.o_ge, G.o_add, G.o_neg, G.o_isN, G.o_isNI, G.o_isNT, G.o_isNL, G.o_isNR, G.o_isNB, G.o_isNS, G.o_is, G.o_ixT, G.o_ixL, G.o_ixS, G.at_0, G.at_1, G.o_lenL, G.o_lenT, G.o_lenC, G.o_lenS, G.o_max2, G.o_min2, G.o_intB, G.o_intI, G.o_listL, G.o_listT, G.o_listC, G.o_tupL, G.o_eqIt, G.o_eqIf, G.seq_lst, G.seq_scr, G.seq_ref, G.noRL_nil, G.noRL_cons, G.noR_non, G.noR_bl, G.noR_int, G.noR_str, G.noR_dic, G.noR_scr, G.noR_tup, G.noR_lst, G.isd_int, G.isd_intb, G.isd_bool, G.isd_boolb, G.isd_tup, G.isd_lst, G.isd_ref, G.live_lst, G.tgS_nm, G.tgS_tp2, List.getElem?_cons_zero, List.getElem?_cons_succ, List.set_cons_zero, List.set_cons_succ, List.length_cons, List.length_nil, List.nil_append, List.cons_append, Bool.and_true, Bool.true_and, Bool.and_self, Bool.not_true, Bool.not_false, decide_true, decide_false, Nat.reduceAdd, Int.reduceAdd, Int.reduceSub, Int.reduceMul, Int.reduceNeg, Int.cast_ofNat_Int, Int.natCast_zero, Int.natCast_one, eq_self, Int.reduceEq, Int.reduceLT, Int.reduceLE, w0, w1, w2, w3, q4, w5, mx, om, hf, e, res_n [] (noR_net (natN N))]
end LK
namespace LK
open L2 G PySem PySem.Spec PyProof.Rows
def stepF (F : Nat × Nat → D) : List (Nat × Nat) → List D → List D
  | [], now => now
  | p :: L, now => stepF F L (now.set p.2 (F p))
theorem stepF_len (F : Nat × Nat → D) : ∀ (L : List (Nat × Nat)) (now : List D), (stepF F L now).length = now.length
  | [], _ => rfl
  | p :: L, now => (stepF_len F L _).trans (List.length_set ..)
def goN (F : List D → Nat × Nat → D) : NatNet → List D → List D
  | [], now => now
  | L :: N, now => goN F N (stepF (F now) L now)
theorem goN_len (F : List D → Nat × Nat → D) : ∀ (N : NatNet) (now : List D), (goN F N now).length = now.length
  | [], _ => rfl
  | L :: N, now => (goN_len F N _).trans (stepF_len ..)
theorem set_snoc {pre : Cs} {now now' : List D} : (pre ++ [now]).set pre.length now' = pre ++ [now'] := by simp
theorem get_snoc {pre : Cs} {now : List D} : (pre ++ [now])[pre.length]? = some now := by simp
theorem inner_go' {pre : Cs} {live : Cs → Bool} {t : Tg} {b : En → M Fl} {E : Option D → Option D → En} {n : Nat} {F : Nat × Nat → D} (hl : ∀ cs, live cs = true)
    (ht : ∀ x y a c, tgS t (.tup [a, c]) (E x y) = some (E (some a) (some c))) :
    ∀ (L : List (Nat × Nat)) (now : List D) (x y : Option D), now.length = n →
      (∀ p ∈ L, ∀ now : List D, now.length = n → b (E (some (.int (p.1 : Nat))) (some (.int (p.2 : Nat)))) (pre ++ [now]) = .ok (.nx (E (some (.int (p.1 : Nat))) (some (.int (p.2 : Nat))))) (pre ++ [now.set p.2 (F p)])) →
      ∃ x' y', forGo live t b (layD (L.map zz)) (E x y) (pre ++ [now]) = .ok (.nx (E x' y')) (pre ++ [stepF F L now])
  | [], now, x, y, _, _ => ⟨x, y, forGo_end (hl _)⟩
  | p :: L, now, x, y, hn, h => by
    obtain ⟨x', y', e⟩ := inner_go' hl ht L (now.set p.2 (F p)) (some (.int (p.1 : Nat))) (some (.int (p.2 : Nat))) ((List.length_set ..).trans hn) fun q hq => h q (List.mem_cons_of_mem _ hq)
    exact ⟨x', y', (forGo_nx (hl _) (ht x y _ _) (h p List.mem_cons_self now hn)).trans e⟩
theorem outer_go' {pre : Cs} {live : Cs → Bool} {t : Tg} {b : En → M Fl} {E : Option D → Option D → Option D → Option D → En} {F : List D → Nat × Nat → D} (J : NatNet → List D → Prop) (hl : ∀ cs, live cs = true)
    (ht : ∀ l a x y d, tgS t d (E l a x y) = some (E (some d) a x y))
    (hb : ∀ L N now, J (L :: N) now → (∀ a x y, ∃ a' x' y', b (E (some (layN L)) a x y) (pre ++ [now]) = .ok (.nx (E (some (layN L)) a' x' y')) (pre ++ [stepF (F now) L now])) ∧ J N (stepF (F now) L now)) :
    ∀ (N : NatNet) (now : List D) (l a x y : Option D), J N now → ∃ l' a' x' y', forGo live t b (N.map layN) (E l a x y) (pre ++ [now]) = .ok (.nx (E l' a' x' y')) (pre ++ [goN F N now]) ∧ J [] (goN F N now)
  | [], now, l, a, x, y, h => ⟨l, a, x, y, forGo_end (hl _), h⟩
  | L :: N, now, l, a, x, y, h => by
    obtain ⟨h1, h2⟩ := hb L N now h
    obtain ⟨a', x', y', e⟩ := h1 a x y
    obtain ⟨l2, a2, x2, y2, e2, h3⟩ := outer_go' J hl ht hb N _ (some (layN L)) a' x' y' h2
    exact ⟨l2, a2, x2, y2, (forGo_nx (hl _) (ht l a x y _) e).trans e2, h3⟩
def nD (l : List Nat) : List D := l.map fun k => .int (k : Nat)
def rowDs (n : Nat) (r : Rn.Rw) : List D := (List.range n).map fun y => .lst (nD (r y))
theorem nD_app (a b : List Nat) : nD (a ++ b) = nD a ++ nD b := List.map_append
theorem nD_len (a : List Nat) : (nD a).length = a.length := List.length_map ..
theorem noR_nD : ∀ l : List Nat, noRL (nD l) = true
  | [] => rfl
  | k :: l => by
    show (noR (.int (k : Nat)) && noRL (nD l)) = true
    rw [noR_nD l]
    rfl
def catF (now : List D) (p : Nat × Nat) : D := match now.getD p.1 .non, now.getD p.2 .non with
  | .lst a, .lst b => .lst (a ++ b)
  | _, _ => .non
theorem rowDs_len (n : Nat) (r : Rn.Rw) : (rowDs n r).length = n := by simp [rowDs]
theorem rowDs_get {n : Nat} {r : Rn.Rw} {y : Nat} (h : y < n) : (rowDs n r)[y]? = some (.lst (nD (r y))) := by
  unfold rowDs
  rw [List.getElem?_map, List.getElem?_range h]
  rfl
theorem rowDs_getD {n : Nat} {r : Rn.Rw} {y : Nat} (h : y < n) : (rowDs n r).getD y .non = .lst (nD (r y)) := by
  rw [List.getD_eq_getElem?_getD, rowDs_get h]
  rfl
theorem catF_row {n : Nat} {r : Rn.Rw} {p : Nat × Nat} (h1 : p.1 < n) (h2 : p.2 < n) : catF (rowDs n r) p = .lst (nD (r p.1 ++ r p.2)) := by
  unfold catF
  rw [rowDs_getD h1, rowDs_getD h2, nD_app]
theorem rowDs_set {n : Nat} {r : Rn.Rw} {y : Nat} {l : List Nat} : (rowDs n r).set y (.lst (nD l)) = rowDs n (Rn.updR r y l) := by
  apply List.ext_getElem (by simp [rowDs_len])
  intro i h1 h2
  have hi : i < n := by simpa [rowDs_len] using h1
  rw [List.getElem_set]
  have e : ∀ (r : Rn.Rw) (h : i < (rowDs n r).length), (rowDs n r)[i] = .lst (nD (r i)) := fun r h => by
    have := rowDs_get (r := r) hi
    rw [List.getElem?_eq_getElem h] at this
    exact Option.some.inj this
  rw [e (Rn.updR r y l) h2]
  unfold Rn.updR
  by_cases q : y = i
  · rw [if_pos q, if_pos q.symm]
  · rw [if_neg q, if_neg fun z => q z.symm, e]
theorem step_rowDs {n : Nat} {r : Rn.Rw} : ∀ {L : List (Nat × Nat)} {r' : Rn.Rw}, (∀ p ∈ L, p.1 < p.2 ∧ p.2 < n) → stepF (catF (rowDs n r)) L (rowDs n r') = rowDs n (Rn.rGo r L r')
  | [], _, _ => rfl
  | p :: L, r', h => by
    have q := h p List.mem_cons_self
    show stepF (catF (rowDs n r)) L ((rowDs n r').set p.2 (catF (rowDs n r) p)) = _
    rw [catF_row (by omega) q.2, rowDs_set, step_rowDs fun q hq => h q (List.mem_cons_of_mem _ hq)]
    rfl
structure Jr (n : Nat) (N : NatNet) (r : Rn.Rw) : Prop where
  nd : ∀ L ∈ N, (L.map (·.2)).Nodup
  rg : ∀ L ∈ N, ∀ p ∈ L, p.1 < p.2 ∧ p.2 < n
  b : ∃ w : Nat → Nat, (∀ y, (r y).length ≤ w y) ∧ ∀ y, y < n → Wt.goW w N y ≤ 1000000
theorem Jr.next {n : Nat} {L : List (Nat × Nat)} {N : NatNet} {r : Rn.Rw} (h : Jr n (L :: N) r) : Jr n N (Rn.rGo r L r) := by
  obtain ⟨w, h1, h2⟩ := h.b
  exact ⟨fun K hK => h.nd K (List.mem_cons_of_mem _ hK), fun K hK => h.rg K (List.mem_cons_of_mem _ hK), Wt.layW w L, fun y => Rn.len_lay (h.nd L List.mem_cons_self) h1 y, h2⟩
theorem Jr.use {n : Nat} {L : List (Nat × Nat)} {N : NatNet} {r : Rn.Rw} (h : Jr n (L :: N) r) {p : Nat × Nat} (hp : p ∈ L) : p.1 < n ∧ p.2 < n ∧ (r p.1).length + (r p.2).length ≤ 1000000 := by
  obtain ⟨w, h1, h2⟩ := h.b
  have q := h.rg L List.mem_cons_self p hp
  refine ⟨by omega, q.2, ?_⟩
  have a := h2 p.2 q.2
  have b := Wt.goW_ge N (Wt.layW w L) p.2
  have d : Wt.goW w (L :: N) p.2 = Wt.goW (Wt.layW w L) N p.2 := rfl
  have e : Wt.layW w L p.2 = w p.2 + Wt.addAt w p.2 L := rfl
  have f := Wt.addAt_in (w := w) (h.nd L List.mem_cons_self) hp
  have g := h1 p.1
  have k := h1 p.2
  omega
def r0 : Rn.Rw := fun y => [y]
theorem okD_rows (n : Nat) (r : Rn.Rw) : okD 2 (.lst (rowDs n r)) = true := by
  show (rowDs n r).all (okD 1) = true
  rw [List.all_eq_true]
  intro x hx
  obtain ⟨y, _, rfl⟩ := List.mem_map.mp hx
  show (nD (r y)).all (okD 0) = true
  rw [List.all_eq_true]
  intro z hz
  obtain ⟨k, _, rfl⟩ := List.mem_map.mp hz
  rfl
theorem rows_ok {n : Nat} {N : NatNet} (hn : n ≤ 64) (h : Jr n N r0) : f__law_rows [netD (natN N), .int (n : Nat)] = .ok (.lst (rowDs n (Rn.netR r0 N))) := by
  rw [F__law_rows, netD_N]
  unfold c__law_rows
  have m0 : m__law_rows_0 [some (.lst (N.map layN)), some (.int (n : Nat)), none, none, none, none, none, none] [] = .ok (.ref 0) [rowDs n r0] := by
    unfold m__law_rows_0
    rw [lc_map (cs1 := []) (fun d => .lst [d]) (live := fun _ => true) (xs := (List.range n).map fun i => .int (i : Nat)) (by simp -implicitDefEqProofs only [↓G.e_seq, ↓G.e_skip, ↓G.e_asg, ↓G.e_drop, ↓G.e_ret, ↓G.e_raise, ↓G.e_raiseN, ↓G.e_if, ↓G.e_val, ↓G.e_not, ↓G.e_or, ↓G.e_and, ↓G.e_xand, ↓G.e_xor, ↓G.e_xnot, ↓G.e_var, ↓G.e_c, ↓G.e_bin, ↓G.e_un, ↓G.e_chain, ↓G.e_nil, ↓G.e_cons, ↓G.e_tup, ↓G.e_lst, ↓G.e_call, ↓G.e_callM, ↓G.e_callP, ↓G.e_callO, ↓G.e_for, ↓G.e_itSeq, ↓G.e_itTup, ↓G.e_itR1, ↓G.e_itR2, G.kk_ok, G.kk_ex, G.kF_nx, G.kF_rt, G.kF_ex, G.kI_t, G.kI_f, G.kT_nm, G.kT_tp2, G.kT_ex, G.kB_bl, G.kV_some, G.kO_some, G.kFor_ok, G.nX_n, G.nX_i, G.vB_bl, G.vT_t, G.kP_rt, G.kP_nx, G.kP_ex, G.kQ_some, G.kM_rt, G.kM_nx, G.kM_ex, G.kPO_ex, G.res_bl, G.res_int, G.res_str, G.res_non, G.thr_e, G.ret_e, G.up_ok, G.up_ex, G.upO_ok, G.upO_ex, G.mkL_t, G.mkL_n, G.o_sub, G.o_lt, G.o_le, G.o_gt, G.o_ge, G.o_add, G.o_neg, G.o_isN, G.o_isNI, G.o_isNT, G.o_isNL, G.o_isNR, G.o_isNB, G.o_isNS, G.o_is, G.o_ixT, G.o_ixL, G.o_ixS, G.at_0, G.at_1, G.o_lenL, G.o_lenT, G.o_lenC, G.o_lenS, G.o_max2, G.o_min2, G.o_intB, G.o_intI, G.o_listL, G.o_listT, G.o_listC, G.o_tupL, G.o_eqIt, G.o_eqIf, G.seq_lst, G.seq_scr, G.seq_ref, G.noRL_nil, G.noRL_cons, G.noR_non, G.noR_bl, G.noR_int, G.noR_str, G.noR_dic, G.noR_scr, G.noR_tup, G.noR_lst, G.isd_int, G.isd_intb, G.isd_bool, G.isd_boolb, G.isd_tup, G.isd_lst, G.isd_ref, G.live_lst, G.tgS_nm, G.tgS_tp2, List.getElem?_cons_zero, List.getElem?_cons_succ, List.set_cons_zero, List.set_cons_succ, List.length_cons, List.length_nil, List.nil_append, List.cons_append, Bool.and_true, Bool.true_and, Bool.and_self, Bool.not_true, Bool.not_false, decide_true, decide_false, Nat.reduceAdd, Int.reduceAdd, Int.reduceSub, Int.reduceMul, Int.reduceNeg, Int.cast_ofNat_Int, Int.natCast_zero, Int.natCast_one, eq_self, Int.reduceEq, Int.reduceLT, Int.reduceLE, o_R1 (n := n) (by omega)]) rfl (decide_eq_true (by simp; omega)) fun x hx => ?_]
    · rw [List.map_map]
      rfl
    · obtain ⟨i, hi, rfl⟩ := List.mem_map.mp hx
      refine ⟨_, rfl, ?_⟩
      unfold e__law_rows_0
      simp -implicitDefEqProofs only [↓G.e_seq, ↓G.e_skip, ↓G.e_asg, ↓G.e_drop, ↓G.e_ret, ↓G.e_raise, ↓G.e_raiseN, ↓G.e_if, ↓G.e_val, ↓G.e_not, ↓G.e_or, ↓G.e_and, ↓G.e_xand, ↓G.e_xor, ↓G.e_xnot, ↓G.e_var, ↓G.e_c, ↓G.e_bin, ↓G.e_un, ↓G.e_chain, ↓G.e_nil, ↓G.e_cons, ↓G.e_tup, ↓G.e_lst, ↓G.e_call, ↓G.e_callM, ↓G.e_callP, ↓G.e_callO, ↓G.e_for, ↓G.e_itSeq, ↓G.e_itTup, ↓G.e_itR1, ↓G.e_itR2, G.kk_ok, G.kk_ex, G.kF_nx, G.kF_rt, G.kF_ex, G.kI_t, G.kI_f, G.kT_nm, G.kT_tp2, G.kT_ex, G.kB_bl, G.kV_some, G.kO_some, G.kFor_ok, G.nX_n, G.nX_i, G.vB_bl, G.vT_t, G.kP_rt, G.kP_nx, G.kP_ex, G.kQ_some, G.kM_rt, G.kM_nx, G.kM_ex, G.kPO_ex, G.res_bl, G.res_int, G.res_str, G.res_non, G.thr_e, G.ret_e, G.up_ok, G.up_ex, G.upO_ok, G.upO_ex, G.mkL_t, G.mkL_n, G.o_sub, G.o_lt, G.o_le, G.o_gt, G.o_ge, G.o_add, G.o_neg, G.o_isN, G.o_isNI, G.o_isNT, G.o_isNL, G.o_isNR, G.o_isNB, G.o_isNS, G.o_is, G.o_ixT, G.o_ixL, G.o_ixS, G.at_0, G.at_1, G.o_lenL, G.o_lenT, G.o_lenC, G.o_lenS, G.o_max2, G.o_min2, G.o_intB, G.o_intI, G.o_listL, G.o_listT, G.o_listC, G.o_tupL, G.o_eqIt, G.o_eqIf, G.seq_lst, G.seq_scr, G.seq_ref, G.noRL_nil, G.noRL_cons, G.noR_non, G.noR_bl, G.noR_int, G.noR_str, G.noR_dic, G.noR_scr, G.noR_tup, G.noR_lst, G.isd_int, G.isd_intb, G.isd_bool, G.isd_boolb, G.isd_tup, G.isd_lst, G.isd_ref, G.live_lst, G.tgS_nm, G.tgS_tp2, List.getElem?_cons_zero, List.getElem?_cons_succ, List.set_cons_zero, List.set_cons_succ, List.length_cons, List.length_nil, List.nil_append, List.cons_append, Bool.and_true, Bool.true_and, Bool.and_self, Bool.not_true, Bool.not_false, decide_true, decide_false, Nat.reduceAdd, Int.reduceAdd, Int.reduceSub, Int.reduceMul, Int.reduceNeg, Int.cast_ofNat_Int, Int.natCast_zero, Int.natCast_one, eq_self, Int.reduceEq, Int.reduceLT, Int.reduceLE, G.wip_nil, G.wip_cons, Nat.reduceLeDiff, ↓G.e_sl, ↓G.e_pNo, ↓G.e_pSome, G.vI_i, ↓G.e_fgo_cons, ↓G.e_fgo_nil, G.kL_nx, G.kL_rt, G.kL_ex, G.kS_some, szOk_small, Nat.reduceLeDiff]
  obtain ⟨l', a', x', y', e, r', e1, _⟩ := outer_go' (pre := []) (live := liveOf (N.map layN) (.lst (N.map layN))) (t := .nm 3) (b := b__law_rows_1) (E := fun l a x y => [some (.lst (N.map layN)), some (.int (n : Nat)), some (.ref 0), l, a, x, y, none]) (F := catF) (fun M now => ∃ r, now = rowDs n r ∧ Jr n M r ∧ Rn.netR r M = Rn.netR r0 N) (fun _ => rfl) (fun _ _ _ _ _ => rfl) (by
    rintro L N' now ⟨r, rfl, J, hr⟩
    have hL := J.rg L List.mem_cons_self
    refine ⟨fun a x y => ?_, ⟨Rn.rGo r L r, step_rowDs hL, J.next, hr⟩⟩
    obtain ⟨x', y', e⟩ := inner_go' (pre := []) (live := liveOf (layD (L.map zz)) (.lst (layD (L.map zz)))) (t := .tp [5, 6]) (b := b__law_rows_0) (E := fun x y => [some (.lst (N.map layN)), some (.int (n : Nat)), some (.ref 0), some (layN L), some (.lst (rowDs n r)), x, y, none]) (n := n) (F := catF (rowDs n r)) (fun _ => rfl) (fun _ _ _ _ => rfl) L (rowDs n r) x y (rowDs_len n r) fun p hp now' hl => by
      obtain ⟨u1, u2, u3⟩ := J.use hp
      unfold b__law_rows_0
      rw [catF_row u1 u2, nD_app]
      simp -implicitDefEqProofs only [↓G.e_seq, ↓G.e_skip, ↓G.e_asg, ↓G.e_drop, ↓G.e_ret, ↓G.e_raise, ↓G.e_raiseN, ↓G.e_if, ↓G.e_val, ↓G.e_not, ↓G.e_or, ↓G.e_and, ↓G.e_xand, ↓G.e_xor, ↓G.e_xnot, ↓G.e_var, ↓G.e_c, ↓G.e_bin, ↓G.e_un, ↓G.e_chain, ↓G.e_nil, ↓G.e_cons, ↓G.e_tup, ↓G.e_lst, ↓G.e_call, ↓G.e_callM, ↓G.e_callP, ↓G.e_callO, ↓G.e_for, ↓G.e_itSeq, ↓G.e_itTup, ↓G.e_itR1, ↓G.e_itR2, G.kk_ok, G.kk_ex, G.kF_nx, G.kF_rt, G.kF_ex, G.kI_t, G.kI_f, G.kT_nm, G.kT_tp2, G.kT_ex, G.kB_bl, G.kV_some, G.kO_some, G.kFor_ok, G.nX_n, G.nX_i, G.vB_bl, G.vT_t, G.kP_rt, G.kP_nx, G.kP_ex, G.kQ_some, G.kM_rt, G.kM_nx, G.kM_ex, G.kPO_ex, G.res_bl, G.res_int, G.res_str, G.res_non, G.thr_e, G.ret_e, G.up_ok, G.up_ex, G.upO_ok, G.upO_ex, G.mkL_t, G.mkL_n, G.o_sub, G.o_lt, G.o_le, G.o_gt, G.o_ge, G.o_add, G.o_neg, G.o_isN, G.o_isNI, G.o_isNT, G.o_isNL, G.o_isNR, G.o_isNB, G.o_isNS, G.o_is, G.o_ixT, G.o_ixL, G.o_ixS, G.at_0, G.at_1, G.o_lenL, G.o_lenT, G.o_lenC, G.o_lenS, G.o_max2, G.o_min2, G.o_intB, G.o_intI, G.o_listL, G.o_listT, G.o_listC, G.o_tupL, G.o_eqIt, G.o_eqIf, G.seq_lst, G.seq_scr, G.seq_ref, G.noRL_nil, G.noRL_cons, G.noR_non, G.noR_bl, G.noR_int, G.noR_str, G.noR_dic, G.noR_scr, G.noR_tup, G.noR_lst, G.isd_int, G.isd_intb, G.isd_bool, G.isd_boolb, G.isd_tup, G.isd_lst, G.isd_ref, G.live_lst, G.tgS_nm, G.tgS_tp2, List.getElem?_cons_zero, List.getElem?_cons_succ, List.set_cons_zero, List.set_cons_succ, List.length_cons, List.length_nil, List.nil_append, List.cons_append, Bool.and_true, Bool.true_and, Bool.and_self, Bool.not_true, Bool.not_false, decide_true, decide_false, Nat.reduceAdd, Int.reduceAdd, Int.reduceSub, Int.reduceMul, Int.reduceNeg, Int.cast_ofNat_Int, Int.natCast_zero, Int.natCast_one, eq_self, Int.reduceEq, Int.reduceLT, Int.reduceLE, ↓e_setIx, at_k (xs := rowDs n r) (i := (p.1 : Nat)) (k := p.1) rfl (rowDs_get u1), at_k (xs := rowDs n r) (i := (p.2 : Nat)) (k := p.2) rfl (rowDs_get u2), addL_ok (xs := nD (r p.1)) (ys := nD (r p.2)) (by rw [nD_len, nD_len]; exact u3), kSet_ok (a := 0) (n := p.2) (xs := now') (cs := [now']) rfl rfl (by omega), List.set_cons_zero]
    refine ⟨some (.lst (rowDs n r)), x', y', ?_⟩
    simp only [List.nil_append] at e
    unfold b__law_rows_1
    simp -implicitDefEqProofs only [↓G.e_seq, ↓G.e_skip, ↓G.e_asg, ↓G.e_drop, ↓G.e_ret, ↓G.e_raise, ↓G.e_raiseN, ↓G.e_if, ↓G.e_val, ↓G.e_not, ↓G.e_or, ↓G.e_and, ↓G.e_xand, ↓G.e_xor, ↓G.e_xnot, ↓G.e_var, ↓G.e_c, ↓G.e_bin, ↓G.e_un, ↓G.e_chain, ↓G.e_nil, ↓G.e_cons, ↓G.e_tup, ↓G.e_lst, ↓G.e_call, ↓G.e_callM, ↓G.e_callP, ↓G.e_callO, ↓G.e_for, ↓G.e_itSeq, ↓G.e_itTup, ↓G.e_itR1, ↓G.e_itR2, G.kk_ok, G.kk_ex, G.kF_nx, G.kF_rt, G.kF_ex, G.kI_t, G.kI_f, G.kT_nm, G.kT_tp2, G.kT_ex, G.kB_bl, G.kV_some, G.kO_some, G.kFor_ok, G.nX_n, G.nX_i, G.vB_bl, G.vT_t, G.kP_rt, G.kP_nx, G.kP_ex, G.kQ_some, G.kM_rt, G.kM_nx, G.kM_ex, G.kPO_ex, G.res_bl, G.res_int, G.res_str, G.res_non, G.thr_e, G.ret_e, G.up_ok, G.up_ex, G.upO_ok, G.upO_ex, G.mkL_t, G.mkL_n, G.o_sub, G.o_lt, G.o_le, G.o_gt, G.o_ge, G.o_add, G.o_neg, G.o_isN, G.o_isNI, G.o_isNT, G.o_isNL, G.o_isNR, G.o_isNB, G.o_isNS, G.o_is, G.o_ixT, G.o_ixL, G.o_ixS, G.at_0, G.at_1, G.o_lenL, G.o_lenT, G.o_lenC, G.o_lenS, G.o_max2, G.o_min2, G.o_intB, G.o_intI, G.o_listL, G.o_listT, G.o_listC, G.o_tupL, G.o_eqIt, G.o_eqIf, G.seq_lst, G.seq_scr, G.seq_ref, G.noRL_nil, G.noRL_cons, G.noR_non, G.noR_bl, G.noR_int, G.noR_str, G.noR_dic, G.noR_scr, G.noR_tup, G.noR_lst, G.isd_int, G.isd_intb, G.isd_bool, G.isd_boolb, G.isd_tup, G.isd_lst, G.isd_ref, G.live_lst, G.tgS_nm, G.tgS_tp2, List.getElem?_cons_zero, List.getElem?_cons_succ, List.set_cons_zero, List.set_cons_succ, List.length_cons, List.length_nil, List.nil_append, List.cons_append, Bool.and_true, Bool.true_and, Bool.and_self, Bool.not_true, Bool.not_false, decide_true, decide_false, Nat.reduceAdd, Int.reduceAdd, Int.reduceSub, Int.reduceMul, Int.reduceNeg, Int.cast_ofNat_Int, Int.natCast_zero, Int.natCast_one, eq_self, Int.reduceEq, Int.reduceLT, Int.reduceLE, l__law_rows_0, o_listR (a := 0) (cs := [rowDs n r]) false rfl, layN]
    exact e) N (rowDs n r0) none none none none ⟨r0, rfl, h, rfl⟩
  obtain ⟨_, hr'⟩ := ‹Jr n [] r' ∧ Rn.netR r' [] = Rn.netR r0 N›
  have e2 : goN catF N (rowDs n r0) = rowDs n (Rn.netR r0 N) := by
    rw [e1, ← hr']
    rfl
  simp only [List.nil_append] at e
  rw [e2] at e
  have nr : noRL (rowDs n (Rn.netR r0 N)) = true := by
    rw [noRL_all, List.all_eq_true]
    intro x hx
    obtain ⟨y, _, rfl⟩ := List.mem_map.mp hx
    exact noR_nD _
  have rs : res [rowDs n (Rn.netR r0 N)] (.ref 0) = some (.lst (rowDs n (Rn.netR r0 N))) := by
    show (rsGL _ _).map D.lst = _
    rw [rsGL_noR _ _ nr]
    rfl
  simp -implicitDefEqProofs only [↓G.e_seq, ↓G.e_skip, ↓G.e_asg, ↓G.e_drop, ↓G.e_ret, ↓G.e_raise, ↓G.e_raiseN, ↓G.e_if, ↓G.e_val, ↓G.e_not, ↓G.e_or, ↓G.e_and, ↓G.e_xand, ↓G.e_xor, ↓G.e_xnot, ↓G.e_var, ↓G.e_c, ↓G.e_bin, ↓G.e_un, ↓G.e_chain, ↓G.e_nil, ↓G.e_cons, ↓G.e_tup, ↓G.e_lst, ↓G.e_call, ↓G.e_callM, ↓G.e_callP, ↓G.e_callO, ↓G.e_for, ↓G.e_itSeq, ↓G.e_itTup, ↓G.e_itR1, ↓G.e_itR2, G.kk_ok, G.kk_ex, G.kF_nx, G.kF_rt, G.kF_ex, G.kI_t, G.kI_f, G.kT_nm, G.kT_tp2, G.kT_ex, G.kB_bl, G.kV_some, G.kO_some, G.kFor_ok, G.nX_n, G.nX_i, G.vB_bl, G.vT_t, G.kP_rt, G.kP_nx, G.kP_ex, G.kQ_some, G.kM_rt, G.kM_nx, G.kM_ex, G.kPO_ex, G.res_bl, G.res_int, G.res_str, G.res_non, G.thr_e, G.ret_e, G.up_ok, G.up_ex, G.upO_ok, G.upO_ex, G.mkL_t, G.mkL_n, G.o_sub, G.o_lt, G.o_le, G.o_gt, G.o_ge, G.o_add, G.o_neg, G.o_isN, G.o_isNI, G.o_isNT, G.o_isNL, G.o_isNR, G.o_isNB, G.o_isNS, G.o_is, G.o_ixT, G.o_ixL, G.o_ixS, G.at_0, G.at_1, G.o_lenL, G.o_lenT, G.o_lenC, G.o_lenS, G.o_max2, G.o_min2, G.o_intB, G.o_intI, G.o_listL, G.o_listT, G.o_listC, G.o_tupL, G.o_eqIt, G.o_eqIf, G.seq_lst, G.seq_scr, G.seq_ref, G.noRL_nil, G.noRL_cons, G.noR_non, G.noR_bl, G.noR_int, G.noR_str, G.noR_dic, G.noR_scr, G.noR_tup, G.noR_lst, G.isd_int, G.isd_intb, G.isd_bool, G.isd_boolb, G.isd_tup, G.isd_lst, G.isd_ref, G.live_lst, G.tgS_nm, G.tgS_tp2, List.getElem?_cons_zero, List.getElem?_cons_succ, List.set_cons_zero, List.set_cons_succ, List.length_cons, List.length_nil, List.nil_append, List.cons_append, Bool.and_true, Bool.true_and, Bool.and_self, Bool.not_true, Bool.not_false, decide_true, decide_false, Nat.reduceAdd, Int.reduceAdd, Int.reduceSub, Int.reduceMul, Int.reduceNeg, Int.cast_ofNat_Int, Int.natCast_zero, Int.natCast_one, eq_self, Int.reduceEq, Int.reduceLT, Int.reduceLE, m0, l__law_rows_1, e, rs]
theorem jr_of {n : Nat} {N : NatNet} (V : Valid n N) (hn : n ≤ 64) (hb : Wt.Bd n 1 N) : Jr n N r0 := ⟨V.nd, V.rg, fun _ => 1, fun y => Nat.le_refl _, fun y hy => by
  have a := hb (fun _ => 1) y hy
  have t : ∀ n, Wt.tot (fun _ => 1) n = n := fun n => by
    induction n with
    | zero => rfl
    | succ n ih =>
      show Wt.tot _ n + 1 = n + 1
      rw [ih]
  rw [t] at a
  omega⟩
theorem lens_sum (N : NatNet) : ((N.map fun L => ((L.length : Nat) : Int))).sum = ((joints N : Nat) : Int) := by
  unfold joints
  induction N with
  | nil => rfl
  | cons L N ih =>
    simp only [List.map_cons, List.sum_cons, ih]
    omega
theorem len_layN (L : List (Nat × Nat)) (cs : Cs) : opLen [layN L] cs = .ok (.int (L.length : Nat)) cs := by
  show Rs.ok (D.int ((layD (L.map zz)).length : Nat)) cs = _
  rw [layN_len]
theorem joints_ok {n : Nat} {N : NatNet} (V : Valid n N) (hl : N.length ≤ 80) (h1 : 1 ≤ n) (hn : n ≤ 64) : f_joints [.int (n : Nat), netD (natN N)] = .ok (.int (joints N : Nat)) := by
  have nt := mnet_t V h1 hn hl
  have m : m_joints_0 [some (.int (n : Nat)), some (netD (natN N)), none] [] = .ok (.lst ((N.map fun L => ((L.length : Nat) : Int)).map D.int)) [] := by
    rw [netD_N]
    unfold m_joints_0
    rw [lc_any (xs := N) (i := layN) (o := fun L => .int (L.length : Nat)) (live := liveOf (N.map layN) (.lst (N.map layN))) (by simp -implicitDefEqProofs only [↓G.e_seq, ↓G.e_skip, ↓G.e_asg, ↓G.e_drop, ↓G.e_ret, ↓G.e_raise, ↓G.e_raiseN, ↓G.e_if, ↓G.e_val, ↓G.e_not, ↓G.e_or, ↓G.e_and, ↓G.e_xand, ↓G.e_xor, ↓G.e_xnot, ↓G.e_var, ↓G.e_c, ↓G.e_bin, ↓G.e_un, ↓G.e_chain, ↓G.e_nil, ↓G.e_cons, ↓G.e_tup, ↓G.e_lst, ↓G.e_call, ↓G.e_callM, ↓G.e_callP, ↓G.e_callO, ↓G.e_for, ↓G.e_itSeq, ↓G.e_itTup, ↓G.e_itR1, ↓G.e_itR2, G.kk_ok, G.kk_ex, G.kF_nx, G.kF_rt, G.kF_ex, G.kI_t, G.kI_f, G.kT_nm, G.kT_tp2, G.kT_ex, G.kB_bl, G.kV_some, G.kO_some, G.kFor_ok, G.nX_n, G.nX_i, G.vB_bl, G.vT_t, G.kP_rt, G.kP_nx, G.kP_ex, G.kQ_some, G.kM_rt, G.kM_nx, G.kM_ex, G.kPO_ex, G.res_bl, G.res_int, G.res_str, G.res_non, G.thr_e, G.ret_e, G.up_ok, G.up_ex, G.upO_ok, G.upO_ex, G.mkL_t, G.mkL_n, G.o_sub, G.o_lt, G.o_le, G.o_gt, G.o_ge, G.o_add, G.o_neg, G.o_isN, G.o_isNI, G.o_isNT, G.o_isNL, G.o_isNR, G.o_isNB, G.o_isNS, G.o_is, G.o_ixT, G.o_ixL, G.o_ixS, G.at_0, G.at_1, G.o_lenL, G.o_lenT, G.o_lenC, G.o_lenS, G.o_max2, G.o_min2, G.o_intB, G.o_intI, G.o_listL, G.o_listT, G.o_listC, G.o_tupL, G.o_eqIt, G.o_eqIf, G.seq_lst, G.seq_scr, G.seq_ref, G.noRL_nil, G.noRL_cons, G.noR_non, G.noR_bl, G.noR_int, G.noR_str, G.noR_dic, G.noR_scr, G.noR_tup, G.noR_lst, G.isd_int, G.isd_intb, G.isd_bool, G.isd_boolb, G.isd_tup, G.isd_lst, G.isd_ref, G.live_lst, G.tgS_nm, G.tgS_tp2, List.getElem?_cons_zero, List.getElem?_cons_succ, List.set_cons_zero, List.set_cons_succ, List.length_cons, List.length_nil, List.nil_append, List.cons_append, Bool.and_true, Bool.true_and, Bool.and_self, Bool.not_true, Bool.not_false, decide_true, decide_false, Nat.reduceAdd, Int.reduceAdd, Int.reduceSub, Int.reduceMul, Int.reduceNeg, Int.cast_ofNat_Int, Int.natCast_zero, Int.natCast_one, eq_self, Int.reduceEq, Int.reduceLT, Int.reduceLE]) rfl (by omega) fun L hL => ⟨_, rfl, by
      have l := len_layN L []
      unfold e_joints_0
      simp -implicitDefEqProofs only [↓G.e_seq, ↓G.e_skip, ↓G.e_asg, ↓G.e_drop, ↓G.e_ret, ↓G.e_raise, ↓G.e_raiseN, ↓G.e_if, ↓G.e_val, ↓G.e_not, ↓G.e_or, ↓G.e_and, ↓G.e_xand, ↓G.e_xor, ↓G.e_xnot, ↓G.e_var, ↓G.e_c, ↓G.e_bin, ↓G.e_un, ↓G.e_chain, ↓G.e_nil, ↓G.e_cons, ↓G.e_tup, ↓G.e_lst, ↓G.e_call, ↓G.e_callM, ↓G.e_callP, ↓G.e_callO, ↓G.e_for, ↓G.e_itSeq, ↓G.e_itTup, ↓G.e_itR1, ↓G.e_itR2, G.kk_ok, G.kk_ex, G.kF_nx, G.kF_rt, G.kF_ex, G.kI_t, G.kI_f, G.kT_nm, G.kT_tp2, G.kT_ex, G.kB_bl, G.kV_some, G.kO_some, G.kFor_ok, G.nX_n, G.nX_i, G.vB_bl, G.vT_t, G.kP_rt, G.kP_nx, G.kP_ex, G.kQ_some, G.kM_rt, G.kM_nx, G.kM_ex, G.kPO_ex, G.res_bl, G.res_int, G.res_str, G.res_non, G.thr_e, G.ret_e, G.up_ok, G.up_ex, G.upO_ok, G.upO_ex, G.mkL_t, G.mkL_n, G.o_sub, G.o_lt, G.o_le, G.o_gt, G.o_ge, G.o_add, G.o_neg, G.o_isN, G.o_isNI, G.o_isNT, G.o_isNL, G.o_isNR, G.o_isNB, G.o_isNS, G.o_is, G.o_ixT, G.o_ixL, G.o_ixS, G.at_0, G.at_1, G.o_lenL, G.o_lenT, G.o_lenC, G.o_lenS, G.o_max2, G.o_min2, G.o_intB, G.o_intI, G.o_listL, G.o_listT, G.o_listC, G.o_tupL, G.o_eqIt, G.o_eqIf, G.seq_lst, G.seq_scr, G.seq_ref, G.noRL_nil, G.noRL_cons, G.noR_non, G.noR_bl, G.noR_int, G.noR_str, G.noR_dic, G.noR_scr, G.noR_tup, G.noR_lst, G.isd_int, G.isd_intb, G.isd_bool, G.isd_boolb, G.isd_tup, G.isd_lst, G.isd_ref, G.live_lst, G.tgS_nm, G.tgS_tp2, List.getElem?_cons_zero, List.getElem?_cons_succ, List.set_cons_zero, List.set_cons_succ, List.length_cons, List.length_nil, List.nil_append, List.cons_append, Bool.and_true, Bool.true_and, Bool.and_self, Bool.not_true, Bool.not_false, decide_true, decide_false, Nat.reduceAdd, Int.reduceAdd, Int.reduceSub, Int.reduceMul, Int.reduceNeg, Int.cast_ofNat_Int, Int.natCast_zero, Int.natCast_one, eq_self, Int.reduceEq, Int.reduceLT, Int.reduceLE, G.wip_nil, G.wip_cons, Nat.reduceLeDiff, ↓G.e_sl, ↓G.e_pNo, ↓G.e_pSome, G.vI_i, ↓G.e_fgo_cons, ↓G.e_fgo_nil, G.kL_nx, G.kL_rt, G.kL_ex, G.kS_some, l]⟩, List.map_map]
    rfl
  have s := o_sum (N.map fun L => ((L.length : Nat) : Int)) []
  rw [lens_sum] at s
  rw [F_joints]
  unfold c_joints
  simp -implicitDefEqProofs only [↓G.e_seq, ↓G.e_skip, ↓G.e_asg, ↓G.e_drop, ↓G.e_ret, ↓G.e_raise, ↓G.e_raiseN, ↓G.e_if, ↓G.e_val, ↓G.e_not, ↓G.e_or, ↓G.e_and, ↓G.e_xand, ↓G.e_xor, ↓G.e_xnot, ↓G.e_var, ↓G.e_c, ↓G.e_bin, ↓G.e_un, ↓G.e_chain, ↓G.e_nil, ↓G.e_cons, ↓G.e_tup, ↓G.e_lst, ↓G.e_call, ↓G.e_callM, ↓G.e_callP, ↓G.e_callO, ↓G.e_for, ↓G.e_itSeq, ↓G.e_itTup, ↓G.e_itR1, ↓G.e_itR2, G.kk_ok, G.kk_ex, G.kF_nx, G.kF_rt, G.kF_ex, G.kI_t, G.kI_f, G.kT_nm, G.kT_tp2, G.kT_ex, G.kB_bl, G.kV_some, G.kO_some, G.kFor_ok, G.nX_n, G.nX_i, G.vB_bl, G.vT_t, G.kP_rt, G.kP_nx, G.kP_ex, G.kQ_some, G.kM_rt, G.kM_nx, G.kM_ex, G.kPO_ex, G.res_bl, G.res_int, G.res_str, G.res_non, G.thr_e, G.ret_e, G.up_ok, G.up_ex, G.upO_ok, G.upO_ex, G.mkL_t, G.mkL_n, G.o_sub, G.o_lt, G.o_le, G.o_gt, G.o_ge, G.o_add, G.o_neg, G.o_isN, G.o_isNI, G.o_isNT, G.o_isNL, G.o_isNR, G.o_isNB, G.o_isNS, G.o_is, G.o_ixT, G.o_ixL, G.o_ixS, G.at_0, G.at_1, G.o_lenL, G.o_lenT, G.o_lenC, G.o_lenS, G.o_max2, G.o_min2, G.o_intB, G.o_intI, G.o_listL, G.o_listT, G.o_listC, G.o_tupL, G.o_eqIt, G.o_eqIf, G.seq_lst, G.seq_scr, G.seq_ref, G.noRL_nil, G.noRL_cons, G.noR_non, G.noR_bl, G.noR_int, G.noR_str, G.noR_dic, G.noR_scr, G.noR_tup, G.noR_lst, G.isd_int, G.isd_intb, G.isd_bool, G.isd_boolb, G.isd_tup, G.isd_lst, G.isd_ref, G.live_lst, G.tgS_nm, G.tgS_tp2, List.getElem?_cons_zero, List.getElem?_cons_succ, List.set_cons_zero, List.set_cons_succ, List.length_cons, List.length_nil, List.nil_append, List.cons_append, Bool.and_true, Bool.true_and, Bool.and_self, Bool.not_true, Bool.not_false, decide_true, decide_false, Nat.reduceAdd, Int.reduceAdd, Int.reduceSub, Int.reduceMul, Int.reduceNeg, Int.cast_ofNat_Int, Int.natCast_zero, Int.natCast_one, eq_self, Int.reduceEq, Int.reduceLT, Int.reduceLE, noR_net, nt, m, s]
/-- the law -/
theorem law_true (ns : List Int) (h : ns.length ≤ 63) : f_law [.scr ns] = .ok (.bl true) := by
  obtain ⟨c0, h0⟩ := cell_at ns 0 (by decide)
  obtain ⟨c1, h1⟩ := cell_at ns 1 (by decide)
  obtain ⟨c2, h2⟩ := cell_at ns 2 (by decide)
  obtain ⟨n, hn, n1, n2⟩ := lines_by c0
  rw [F_law]
  unfold c_law
  generalize hc : c2 * 48271 % 2147483647 = c
  obtain ⟨N, eN, A, lN⟩ := made_ok n1 n2 (c % 8) (c1 * 48271 % 2147483647)
  have J := jr_of A.V (by omega) (Wt.tell_bd A.V.nd A.V.rg A.t)
  have ro := rows_ok (by omega : n ≤ 64) J
  have rel := Rn.rel_net (n := n) (N := N) A.V.nd A.V.rg (Rn.rel0 n)
  have re : ∀ y, y < n → Rn.netR r0 N y = List.range (y + 1) := (Rn.rel_end rel).mp A.t
  have er : rowDs n (Rn.netR r0 N) = (List.range n).map fun y => .lst (nD (List.range (y + 1))) := by
    unfold rowDs
    exact List.map_congr_left fun y hy => by rw [re y (List.mem_range.mp hy)]
  have ok := okD_rows n (Rn.netR r0 N)
  rw [er] at ro ok
  have m0 : m_law_0 [some (.scr ns), some (.int (n : Nat)), some (.int c), some (netD (natN N)), none, none, none] [] = .ok (.lst ((List.range n).map fun y => .lst (nD (List.range (y + 1))))) [] := by
    unfold m_law_0
    rw [lc_any (xs := List.range n) (i := fun i => .int (i : Nat)) (o := fun y => .lst (nD (List.range (y + 1)))) (live := fun _ => true) (by simp -implicitDefEqProofs only [↓G.e_seq, ↓G.e_skip, ↓G.e_asg, ↓G.e_drop, ↓G.e_ret, ↓G.e_raise, ↓G.e_raiseN, ↓G.e_if, ↓G.e_val, ↓G.e_not, ↓G.e_or, ↓G.e_and, ↓G.e_xand, ↓G.e_xor, ↓G.e_xnot, ↓G.e_var, ↓G.e_c, ↓G.e_bin, ↓G.e_un, ↓G.e_chain, ↓G.e_nil, ↓G.e_cons, ↓G.e_tup, ↓G.e_lst, ↓G.e_call, ↓G.e_callM, ↓G.e_callP, ↓G.e_callO, ↓G.e_for, ↓G.e_itSeq, ↓G.e_itTup, ↓G.e_itR1, ↓G.e_itR2, G.kk_ok, G.kk_ex, G.kF_nx, G.kF_rt, G.kF_ex, G.kI_t, G.kI_f, G.kT_nm, G.kT_tp2, G.kT_ex, G.kB_bl, G.kV_some, G.kO_some, G.kFor_ok, G.nX_n, G.nX_i, G.vB_bl, G.vT_t, G.kP_rt, G.kP_nx, G.kP_ex, G.kQ_some, G.kM_rt, G.kM_nx, G.kM_ex, G.kPO_ex, G.res_bl, G.res_int, G.res_str, G.res_non, G.thr_e, G.ret_e, G.up_ok, G.up_ex, G.upO_ok, G.upO_ex, G.mkL_t, G.mkL_n, G.o_sub, G.o_lt, G.o_le, G.o_gt, G.o_ge, G.o_add, G.o_neg, G.o_isN, G.o_isNI, G.o_isNT, G.o_isNL, G.o_isNR, G.o_isNB, G.o_isNS, G.o_is, G.o_ixT, G.o_ixL, G.o_ixS, G.at_0, G.at_1, G.o_lenL, G.o_lenT, G.o_lenC, G.o_lenS, G.o_max2, G.o_min2, G.o_intB, G.o_intI, G.o_listL, G.o_listT, G.o_listC, G.o_tupL, G.o_eqIt, G.o_eqIf, G.seq_lst, G.seq_scr, G.seq_ref, G.noRL_nil, G.noRL_cons, G.noR_non, G.noR_bl, G.noR_int, G.noR_str, G.noR_dic, G.noR_scr, G.noR_tup, G.noR_lst, G.isd_int, G.isd_intb, G.isd_bool, G.isd_boolb, G.isd_tup, G.isd_lst, G.isd_ref, G.live_lst, G.tgS_nm, G.tgS_tp2, List.getElem?_cons_zero, List.getElem?_cons_succ, List.set_cons_zero, List.set_cons_succ, List.length_cons, List.length_nil, List.nil_append, List.cons_append, Bool.and_true, Bool.true_and, Bool.and_self, Bool.not_true, Bool.not_false, decide_true, decide_false, Nat.reduceAdd, Int.reduceAdd, Int.reduceSub, Int.reduceMul, Int.reduceNeg, Int.cast_ofNat_Int, Int.natCast_zero, Int.natCast_one, eq_self, Int.reduceEq, Int.reduceLT, Int.reduceLE, o_R1 (n := n) (by omega)]) rfl (by simp; omega) fun y hy => ⟨_, rfl, by
      have hy := List.mem_range.mp hy
      have c1 : (y : Int) + 1 = ((y + 1 : Nat) : Int) := by omega
      have r := range_ok (n := y + 1) (cs := []) (by omega)
      have r' : opRg false false (.int ((y + 1 : Nat) : Int)) [] = .ok (.lst (nD (List.range (y + 1)))) [] := r
      unfold e_law_0
      simp -implicitDefEqProofs only [↓G.e_seq, ↓G.e_skip, ↓G.e_asg, ↓G.e_drop, ↓G.e_ret, ↓G.e_raise, ↓G.e_raiseN, ↓G.e_if, ↓G.e_val, ↓G.e_not, ↓G.e_or, ↓G.e_and, ↓G.e_xand, ↓G.e_xor, ↓G.e_xnot, ↓G.e_var, ↓G.e_c, ↓G.e_bin, ↓G.e_un, ↓G.e_chain, ↓G.e_nil, ↓G.e_cons, ↓G.e_tup, ↓G.e_lst, ↓G.e_call, ↓G.e_callM, ↓G.e_callP, ↓G.e_callO, ↓G.e_for, ↓G.e_itSeq, ↓G.e_itTup, ↓G.e_itR1, ↓G.e_itR2, G.kk_ok, G.kk_ex, G.kF_nx, G.kF_rt, G.kF_ex, G.kI_t, G.kI_f, G.kT_nm, G.kT_tp2, G.kT_ex, G.kB_bl, G.kV_some, G.kO_some, G.kFor_ok, G.nX_n, G.nX_i, G.vB_bl, G.vT_t, G.kP_rt, G.kP_nx, G.kP_ex, G.kQ_some, G.kM_rt, G.kM_nx, G.kM_ex, G.kPO_ex, G.res_bl, G.res_int, G.res_str, G.res_non, G.thr_e, G.ret_e, G.up_ok, G.up_ex, G.upO_ok, G.upO_ex, G.mkL_t, G.mkL_n, G.o_sub, G.o_lt, G.o_le, G.o_gt, G.o_ge, G.o_add, G.o_neg, G.o_isN, G.o_isNI, G.o_isNT, G.o_isNL, G.o_isNR, G.o_isNB, G.o_isNS, G.o_is, G.o_ixT, G.o_ixL, G.o_ixS, G.at_0, G.at_1, G.o_lenL, G.o_lenT, G.o_lenC, G.o_lenS, G.o_max2, G.o_min2, G.o_intB, G.o_intI, G.o_listL, G.o_listT, G.o_listC, G.o_tupL, G.o_eqIt, G.o_eqIf, G.seq_lst, G.seq_scr, G.seq_ref, G.noRL_nil, G.noRL_cons, G.noR_non, G.noR_bl, G.noR_int, G.noR_str, G.noR_dic, G.noR_scr, G.noR_tup, G.noR_lst, G.isd_int, G.isd_intb, G.isd_bool, G.isd_boolb, G.isd_tup, G.isd_lst, G.isd_ref, G.live_lst, G.tgS_nm, G.tgS_tp2, List.getElem?_cons_zero, List.getElem?_cons_succ, List.set_cons_zero, List.set_cons_succ, List.length_cons, List.length_nil, List.nil_append, List.cons_append, Bool.and_true, Bool.true_and, Bool.and_self, Bool.not_true, Bool.not_false, decide_true, decide_false, Nat.reduceAdd, Int.reduceAdd, Int.reduceSub, Int.reduceMul, Int.reduceNeg, Int.cast_ofNat_Int, Int.natCast_zero, Int.natCast_one, eq_self, Int.reduceEq, Int.reduceLT, Int.reduceLE, G.wip_nil, G.wip_cons, Nat.reduceLeDiff, ↓G.e_sl, ↓G.e_pNo, ↓G.e_pSome, G.vI_i, ↓G.e_fgo_cons, ↓G.e_fgo_nil, G.kL_nx, G.kL_rt, G.kL_ex, G.kS_some, c1, r']⟩]
  have m1 : ∀ s4, m_law_1 [some (.scr ns), some (.int (n : Nat)), some (.int c), some (netD (natN N)), s4, none, none] [] = .ok (netD (natN N)) [] := fun s4 => copy_ok (N := N) (s := 6) (j := 3) rfl (by omega) fun L hL => by
    unfold layN e_law_1
    simp -implicitDefEqProofs only [↓G.e_seq, ↓G.e_skip, ↓G.e_asg, ↓G.e_drop, ↓G.e_ret, ↓G.e_raise, ↓G.e_raiseN, ↓G.e_if, ↓G.e_val, ↓G.e_not, ↓G.e_or, ↓G.e_and, ↓G.e_xand, ↓G.e_xor, ↓G.e_xnot, ↓G.e_var, ↓G.e_c, ↓G.e_bin, ↓G.e_un, ↓G.e_chain, ↓G.e_nil, ↓G.e_cons, ↓G.e_tup, ↓G.e_lst, ↓G.e_call, ↓G.e_callM, ↓G.e_callP, ↓G.e_callO, ↓G.e_for, ↓G.e_itSeq, ↓G.e_itTup, ↓G.e_itR1, ↓G.e_itR2, G.kk_ok, G.kk_ex, G.kF_nx, G.kF_rt, G.kF_ex, G.kI_t, G.kI_f, G.kT_nm, G.kT_tp2, G.kT_ex, G.kB_bl, G.kV_some, G.kO_some, G.kFor_ok, G.nX_n, G.nX_i, G.vB_bl, G.vT_t, G.kP_rt, G.kP_nx, G.kP_ex, G.kQ_some, G.kM_rt, G.kM_nx, G.kM_ex, G.kPO_ex, G.res_bl, G.res_int, G.res_str, G.res_non, G.thr_e, G.ret_e, G.up_ok, G.up_ex, G.upO_ok, G.upO_ex, G.mkL_t, G.mkL_n, G.o_sub, G.o_lt, G.o_le, G.o_gt, G.o_ge, G.o_add, G.o_neg, G.o_isN, G.o_isNI, G.o_isNT, G.o_isNL, G.o_isNR, G.o_isNB, G.o_isNS, G.o_is, G.o_ixT, G.o_ixL, G.o_ixS, G.at_0, G.at_1, G.o_lenL, G.o_lenT, G.o_lenC, G.o_lenS, G.o_max2, G.o_min2, G.o_intB, G.o_intI, G.o_listL, G.o_listT, G.o_listC, G.o_tupL, G.o_eqIt, G.o_eqIf, G.seq_lst, G.seq_scr, G.seq_ref, G.noRL_nil, G.noRL_cons, G.noR_non, G.noR_bl, G.noR_int, G.noR_str, G.noR_dic, G.noR_scr, G.noR_tup, G.noR_lst, G.isd_int, G.isd_intb, G.isd_bool, G.isd_boolb, G.isd_tup, G.isd_lst, G.isd_ref, G.live_lst, G.tgS_nm, G.tgS_tp2, List.getElem?_cons_zero, List.getElem?_cons_succ, List.set_cons_zero, List.set_cons_succ, List.length_cons, List.length_nil, List.nil_append, List.cons_append, Bool.and_true, Bool.true_and, Bool.and_self, Bool.not_true, Bool.not_false, decide_true, decide_false, Nat.reduceAdd, Int.reduceAdd, Int.reduceSub, Int.reduceMul, Int.reduceNeg, Int.cast_ofNat_Int, Int.natCast_zero, Int.natCast_one, eq_self, Int.reduceEq, Int.reduceLT, Int.reduceLE, G.wip_nil, G.wip_cons, Nat.reduceLeDiff, ↓G.e_sl, ↓G.e_pNo, ↓G.e_pSome, G.vI_i, ↓G.e_fgo_cons, ↓G.e_fgo_nil, G.kL_nx, G.kL_rt, G.kL_ex, G.kS_some]
  have m2 : ∀ s4, m_law_2 [some (.scr ns), some (.int (n : Nat)), some (.int c), some (netD (natN N)), s4, none, none] [] = .ok (.lst ((N.map fun L => ((L.length : Nat) : Int)).map D.int)) [] := fun s4 => by
    rw [netD_N]
    unfold m_law_2
    rw [lc_any (xs := N) (i := layN) (o := fun L => .int (L.length : Nat)) (live := liveOf (N.map layN) (.lst (N.map layN))) (by simp -implicitDefEqProofs only [↓G.e_seq, ↓G.e_skip, ↓G.e_asg, ↓G.e_drop, ↓G.e_ret, ↓G.e_raise, ↓G.e_raiseN, ↓G.e_if, ↓G.e_val, ↓G.e_not, ↓G.e_or, ↓G.e_and, ↓G.e_xand, ↓G.e_xor, ↓G.e_xnot, ↓G.e_var, ↓G.e_c, ↓G.e_bin, ↓G.e_un, ↓G.e_chain, ↓G.e_nil, ↓G.e_cons, ↓G.e_tup, ↓G.e_lst, ↓G.e_call, ↓G.e_callM, ↓G.e_callP, ↓G.e_callO, ↓G.e_for, ↓G.e_itSeq, ↓G.e_itTup, ↓G.e_itR1, ↓G.e_itR2, G.kk_ok, G.kk_ex, G.kF_nx, G.kF_rt, G.kF_ex, G.kI_t, G.kI_f, G.kT_nm, G.kT_tp2, G.kT_ex, G.kB_bl, G.kV_some, G.kO_some, G.kFor_ok, G.nX_n, G.nX_i, G.vB_bl, G.vT_t, G.kP_rt, G.kP_nx, G.kP_ex, G.kQ_some, G.kM_rt, G.kM_nx, G.kM_ex, G.kPO_ex, G.res_bl, G.res_int, G.res_str, G.res_non, G.thr_e, G.ret_e, G.up_ok, G.up_ex, G.upO_ok, G.upO_ex, G.mkL_t, G.mkL_n, G.o_sub, G.o_lt, G.o_le, G.o_gt, G.o_ge, G.o_add, G.o_neg, G.o_isN, G.o_isNI, G.o_isNT, G.o_isNL, G.o_isNR, G.o_isNB, G.o_isNS, G.o_is, G.o_ixT, G.o_ixL, G.o_ixS, G.at_0, G.at_1, G.o_lenL, G.o_lenT, G.o_lenC, G.o_lenS, G.o_max2, G.o_min2, G.o_intB, G.o_intI, G.o_listL, G.o_listT, G.o_listC, G.o_tupL, G.o_eqIt, G.o_eqIf, G.seq_lst, G.seq_scr, G.seq_ref, G.noRL_nil, G.noRL_cons, G.noR_non, G.noR_bl, G.noR_int, G.noR_str, G.noR_dic, G.noR_scr, G.noR_tup, G.noR_lst, G.isd_int, G.isd_intb, G.isd_bool, G.isd_boolb, G.isd_tup, G.isd_lst, G.isd_ref, G.live_lst, G.tgS_nm, G.tgS_tp2, List.getElem?_cons_zero, List.getElem?_cons_succ, List.set_cons_zero, List.set_cons_succ, List.length_cons, List.length_nil, List.nil_append, List.cons_append, Bool.and_true, Bool.true_and, Bool.and_self, Bool.not_true, Bool.not_false, decide_true, decide_false, Nat.reduceAdd, Int.reduceAdd, Int.reduceSub, Int.reduceMul, Int.reduceNeg, Int.cast_ofNat_Int, Int.natCast_zero, Int.natCast_one, eq_self, Int.reduceEq, Int.reduceLT, Int.reduceLE]) rfl (by omega) fun L hL => ⟨_, rfl, by
      have l := len_layN L []
      unfold e_law_2
      simp -implicitDefEqProofs only [↓G.e_seq, ↓G.e_skip, ↓G.e_asg, ↓G.e_drop, ↓G.e_ret, ↓G.e_raise, ↓G.e_raiseN, ↓G.e_if, ↓G.e_val, ↓G.e_not, ↓G.e_or, ↓G.e_and, ↓G.e_xand, ↓G.e_xor, ↓G.e_xnot, ↓G.e_var, ↓G.e_c, ↓G.e_bin, ↓G.e_un, ↓G.e_chain, ↓G.e_nil, ↓G.e_cons, ↓G.e_tup, ↓G.e_lst, ↓G.e_call, ↓G.e_callM, ↓G.e_callP, ↓G.e_callO, ↓G.e_for, ↓G.e_itSeq, ↓G.e_itTup, ↓G.e_itR1, ↓G.e_itR2, G.kk_ok, G.kk_ex, G.kF_nx, G.kF_rt, G.kF_ex, G.kI_t, G.kI_f, G.kT_nm, G.kT_tp2, G.kT_ex, G.kB_bl, G.kV_some, G.kO_some, G.kFor_ok, G.nX_n, G.nX_i, G.vB_bl, G.vT_t, G.kP_rt, G.kP_nx, G.kP_ex, G.kQ_some, G.kM_rt, G.kM_nx, G.kM_ex, G.kPO_ex, G.res_bl, G.res_int, G.res_str, G.res_non, G.thr_e, G.ret_e, G.up_ok, G.up_ex, G.upO_ok, G.upO_ex, G.mkL_t, G.mkL_n, G.o_sub, G.o_lt, G.o_le, G.o_gt, G.o_ge, G.o_add, G.o_neg, G.o_isN, G.o_isNI, G.o_isNT, G.o_isNL, G.o_isNR, G.o_isNB, G.o_isNS, G.o_is, G.o_ixT, G.o_ixL, G.o_ixS, G.at_0, G.at_1, G.o_lenL, G.o_lenT, G.o_lenC, G.o_lenS, G.o_max2, G.o_min2, G.o_intB, G.o_intI, G.o_listL, G.o_listT, G.o_listC, G.o_tupL, G.o_eqIt, G.o_eqIf, G.seq_lst, G.seq_scr, G.seq_ref, G.noRL_nil, G.noRL_cons, G.noR_non, G.noR_bl, G.noR_int, G.noR_str, G.noR_dic, G.noR_scr, G.noR_tup, G.noR_lst, G.isd_int, G.isd_intb, G.isd_bool, G.isd_boolb, G.isd_tup, G.isd_lst, G.isd_ref, G.live_lst, G.tgS_nm, G.tgS_tp2, List.getElem?_cons_zero, List.getElem?_cons_succ, List.set_cons_zero, List.set_cons_succ, List.length_cons, List.length_nil, List.nil_append, List.cons_append, Bool.and_true, Bool.true_and, Bool.and_self, Bool.not_true, Bool.not_false, decide_true, decide_false, Nat.reduceAdd, Int.reduceAdd, Int.reduceSub, Int.reduceMul, Int.reduceNeg, Int.cast_ofNat_Int, Int.natCast_zero, Int.natCast_one, eq_self, Int.reduceEq, Int.reduceLT, Int.reduceLE, G.wip_nil, G.wip_cons, Nat.reduceLeDiff, ↓G.e_sl, ↓G.e_pNo, ↓G.e_pSome, G.vI_i, ↓G.e_fgo_cons, ↓G.e_fgo_nil, G.kL_nx, G.kL_rt, G.kL_ex, G.kS_some, l]⟩, List.map_map]
    rfl
  have s := o_sum (N.map fun L => ((L.length : Nat) : Int)) []
  rw [lens_sum] at s
  have q := eqf_refl ok (by decide) []
  have jo := joints_ok A.V (by omega) n1 (by omega)
  have wh : f__law_whole [.int (joints N : Nat)] = .ok (.bl true) := rfl
  have sn := snir n1 A
  have ln : ∀ cs, opLen [netD (natN N)] cs = .ok (.int (N.length : Nat)) cs := fun cs => by
    rw [netD_N]
    show Rs.ok (D.int ((N.map layN).length : Nat)) cs = _
    rw [List.length_map]
  have z : ((2 : Int) * (n : Int) - 2 ≤ (N.length : Int) + (joints N : Int)) ↔ True := by simp only [iff_true]; omega
  simp -implicitDefEqProofs only [↓G.e_seq, ↓G.e_skip, ↓G.e_asg, ↓G.e_drop, ↓G.e_ret, ↓G.e_raise, ↓G.e_raiseN, ↓G.e_if, ↓G.e_val, ↓G.e_not, ↓G.e_or, ↓G.e_and, ↓G.e_xand, ↓G.e_xor, ↓G.e_xnot, ↓G.e_var, ↓G.e_c, ↓G.e_bin, ↓G.e_un, ↓G.e_chain, ↓G.e_nil, ↓G.e_cons, ↓G.e_tup, ↓G.e_lst, ↓G.e_call, ↓G.e_callM, ↓G.e_callP, ↓G.e_callO, ↓G.e_for, ↓G.e_itSeq, ↓G.e_itTup, ↓G.e_itR1, ↓G.e_itR2, G.kk_ok, G.kk_ex, G.kF_nx, G.kF_rt, G.kF_ex, G.kI_t, G.kI_f, G.kT_nm, G.kT_tp2, G.kT_ex, G.kB_bl, G.kV_some, G.kO_some, G.kFor_ok, G.nX_n, G.nX_i, G.vB_bl, G.vT_t, G.kP_rt, G.kP_nx, G.kP_ex, G.kQ_some, G.kM_rt, G.kM_nx, G.kM_ex, G.kPO_ex, G.res_bl, G.res_int, G.res_str, G.res_non, G.thr_e, G.ret_e, G.up_ok, G.up_ex, G.upO_ok, G.upO_ex, G.mkL_t, G.mkL_n, G.o_sub, G.o_lt, G.o_le, G.o_gt, G.o_ge, G.o_add, G.o_neg, G.o_isN, G.o_isNI, G.o_isNT, G.o_isNL, G.o_isNR, G.o_isNB, G.o_isNS, G.o_is, G.o_ixT, G.o_ixL, G.o_ixS, G.at_0, G.at_1, G.o_lenL, G.o_lenT, G.o_lenC, G.o_lenS, G.o_max2, G.o_min2, G.o_intB, G.o_intI, G.o_listL, G.o_listT, G.o_listC, G.o_tupL, G.o_eqIt, G.o_eqIf, G.seq_lst, G.seq_scr, G.seq_ref, G.noRL_nil, G.noRL_cons, G.noR_non, G.noR_bl, G.noR_int, G.noR_str, G.noR_dic, G.noR_scr, G.noR_tup, G.noR_lst, G.isd_int, G.isd_intb, G.isd_bool, G.isd_boolb, G.isd_tup, G.isd_lst, G.isd_ref, G.live_lst, G.tgS_nm, G.tgS_tp2, List.getElem?_cons_zero, List.getElem?_cons_succ, List.set_cons_zero, List.set_cons_succ, List.length_cons, List.length_nil, List.nil_append, List.cons_append, Bool.and_true, Bool.true_and, Bool.and_self, Bool.not_true, Bool.not_false, decide_true, decide_false, Nat.reduceAdd, Int.reduceAdd, Int.reduceSub, Int.reduceMul, Int.reduceNeg, Int.cast_ofNat_Int, Int.natCast_zero, Int.natCast_one, eq_self, Int.reduceEq, Int.reduceLT, Int.reduceLE, h0, hn, r_law_1, h2, o_mulX (c := false) (i := c2) (j := 48271) (by decide) (by decide), o_mod (i := c2 * 48271) (j := 2147483647) (by decide), hc, r_law_2, o_mod (i := c) (j := 8) (by decide), h1, o_mulX (c := false) (i := c1) (j := 48271) (by decide) (by decide), o_mod (i := c1 * 48271) (j := 2147483647) (by decide), eN, r_law_3, noR_net, ro, m0, q, r_law_4, m1, jo, r_law_5, wh, m2, s, r_law_6, ln, o_mulX (c := false) (i := 2) (j := (n : Int)) (by omega) (by omega), z]
end LK
namespace LK
open L2 G PySem PySem.Spec PyProof.Rows
section
def dd_is_whole : He.DefD := ⟨("is_whole", none), "is_whole", "is_whole", defArgs s_is_whole, defBody s_is_whole, defScope s_is_whole, [], []⟩
def dd_is_among : He.DefD := ⟨("is_among", none), "is_among", "is_among", defArgs s_is_among, defBody s_is_among, defScope s_is_among, [], []⟩
def dd_need_lines : He.DefD := ⟨("need_lines", none), "need_lines", "need_lines", defArgs s_need_lines, defBody s_need_lines, defScope s_need_lines, [], []⟩
def dd_is_joint : He.DefD := ⟨("is_joint", none), "is_joint", "is_joint", defArgs s_is_joint, defBody s_is_joint, defScope s_is_joint, [], []⟩
def dd_is_layer : He.DefD := ⟨("is_layer", none), "is_layer", "is_layer", defArgs s_is_layer, defBody s_is_layer, defScope s_is_layer, [], []⟩
def dd_need_layers : He.DefD := ⟨("need_layers", none), "need_layers", "need_layers", defArgs s_need_layers, defBody s_need_layers, defScope s_need_layers, [], []⟩
def dd_need_net : He.DefD := ⟨("need_net", none), "need_net", "need_net", defArgs s_need_net, defBody s_need_net, defScope s_need_net, [], []⟩
def dd_joints : He.DefD := ⟨("joints", none), "joints", "joints", defArgs s_joints, defBody s_joints, defScope s_joints, [], []⟩
def dd_moved_up : He.DefD := ⟨("moved_up", none), "moved_up", "moved_up", defArgs s_moved_up, defBody s_moved_up, defScope s_moved_up, [], []⟩
def dd_side_by_side : He.DefD := ⟨("side_by_side", none), "side_by_side", "side_by_side", defArgs s_side_by_side, defBody s_side_by_side, defScope s_side_by_side, [], []⟩
def dd_put_behind : He.DefD := ⟨("put_behind", none), "put_behind", "put_behind", defArgs s_put_behind, defBody s_put_behind, defScope s_put_behind, [], []⟩
def dd_pairs_around : He.DefD := ⟨("pairs_around", none), "pairs_around", "pairs_around", defArgs s_pairs_around, defBody s_pairs_around, defScope s_pairs_around, [], []⟩
def dd_one_by_one : He.DefD := ⟨("one_by_one", none), "one_by_one", "one_by_one", defArgs s_one_by_one, defBody s_one_by_one, defScope s_one_by_one, [], []⟩
def dd_doubled : He.DefD := ⟨("doubled", none), "doubled", "doubled", defArgs s_doubled, defBody s_doubled, defScope s_doubled, [], []⟩
def dd_halves_net : He.DefD := ⟨("halves_net", none), "halves_net", "halves_net", defArgs s_halves_net, defBody s_halves_net, defScope s_halves_net, [], []⟩
def dd_by_halves : He.DefD := ⟨("by_halves", none), "by_halves", "by_halves", defArgs s_by_halves, defBody s_by_halves, defScope s_by_halves, [], []⟩
def dd_pairs_net : He.DefD := ⟨("pairs_net", none), "pairs_net", "pairs_net", defArgs s_pairs_net, defBody s_pairs_net, defScope s_pairs_net, [], []⟩
def dd_by_pairs : He.DefD := ⟨("by_pairs", none), "by_pairs", "by_pairs", defArgs s_by_pairs, defBody s_by_pairs, defScope s_by_pairs, [], []⟩
def dd_beside : He.DefD := ⟨("beside", none), "beside", "beside", defArgs s_beside, defBody s_beside, defScope s_beside, [], []⟩
def dd_cut : He.DefD := ⟨("cut", none), "cut", "cut", defArgs s_cut, defBody s_cut, defScope s_cut, [], []⟩
def dd__law_cell_at : He.DefD := ⟨("_law_cell_at", none), "_law_cell_at", "_law_cell_at", defArgs s__law_cell_at, defBody s__law_cell_at, defScope s__law_cell_at, [], []⟩
def dd__law_whole : He.DefD := ⟨("_law_whole", none), "_law_whole", "_law_whole", defArgs s__law_whole, defBody s__law_whole, defScope s__law_whole, [], []⟩
def dd__law_place : He.DefD := ⟨("_law_place", none), "_law_place", "_law_place", defArgs s__law_place, defBody s__law_place, defScope s__law_place, [], []⟩
def dd__law_thinner : He.DefD := ⟨("_law_thinner", none), "_law_thinner", "_law_thinner", defArgs s__law_thinner, defBody s__law_thinner, defScope s__law_thinner, [], []⟩
def dd__law_telling : He.DefD := ⟨("_law_telling", none), "_law_telling", "_law_telling", defArgs s__law_telling, defBody s__law_telling, defScope s__law_telling, [], []⟩
def dd__law_lines_by : He.DefD := ⟨("_law_lines_by", none), "_law_lines_by", "_law_lines_by", defArgs s__law_lines_by, defBody s__law_lines_by, defScope s__law_lines_by, [], []⟩
def dd__law_made : He.DefD := ⟨("_law_made", none), "_law_made", "_law_made", defArgs s__law_made, defBody s__law_made, defScope s__law_made, [], []⟩
def dd__law_rows : He.DefD := ⟨("_law_rows", none), "_law_rows", "_law_rows", defArgs s__law_rows, defBody s__law_rows, defScope s__law_rows, [], []⟩
def dd_law : He.DefD := ⟨("law", none), "law", "law", defArgs s_law, defBody s_law, defScope s_law, [], []⟩
def fn0 : List He.DefD := [dd_is_whole, dd_is_among, dd_need_lines, dd_is_joint, dd_is_layer, dd_need_layers, dd_need_net, dd_joints, dd_moved_up, dd_side_by_side, dd_put_behind, dd_pairs_around, dd_one_by_one, dd_doubled, dd_halves_net, dd_by_halves, dd_pairs_net, dd_by_pairs, dd_beside, dd_cut, dd__law_cell_at, dd__law_whole, dd__law_place, dd__law_thinner, dd__law_telling]
def fn1 : List He.DefD := [dd__law_lines_by, dd__law_made, dd__law_rows, dd_law]
def fn : List He.DefD := fn0 ++ fn1
def fa0 : List He.Fa := [.glo "is_whole", .glo "is_among", .glo "need_lines", .glo "is_joint", .glo "is_layer", .glo "need_layers", .glo "need_net", .glo "joints", .glo "moved_up", .glo "side_by_side", .glo "put_behind", .glo "pairs_around", .glo "one_by_one", .glo "doubled", .glo "halves_net", .glo "by_halves", .glo "pairs_net", .glo "by_pairs", .glo "beside", .glo "cut", .glo "_law_cell_at", .glo "_law_whole", .glo "_law_place", .glo "_law_thinner", .glo "_law_telling"]
def fa1 : List He.Fa := [.glo "_law_lines_by", .glo "_law_made", .glo "_law_rows", .glo "law", .glo "BadLines", .exc "BadLines", .glo "NoNet", .exc "NoNet", .glo "NetError", .glo "BadNet", .free "len", .free "isinstance", .free "range", .free "int", .free "bool", .free "str", .free "tuple", .free "list", .free "max", .free "min", .free "sum", .free "all", .free "sorted", .free "reversed", .free "zip"]
def fa2 : List He.Fa := [.free "abs", .free "ValueError", .int "MOST_LINES" 64, .int "MOST_LAYERS" 80]
def fa : List He.Fa := fa0 ++ fa1 ++ fa2
abbrev R : PySem.W.OpenRow := PySem.W.OpenLaw.row PySem.Challenge.rw_beginnet_k08_whole_layers_and_joints
def exB (K : PySem.W.Frag) : Bool := true && true
abbrev hk : PySem.W.Hook := hookX 5 fa fn exB
def ob (s : PySem.W.SharedT) : AlX := obsXG 5 fa fn exB (HandSHeadRun.getT s)
theorem ob_eq (s : PySem.W.SharedT) : ob s = hk.obs s.abs := obsXG_eq (HandSHeadRun.getT_eq s)
def loose0 : List PySem.Str := ["NetError", "BadNet", "BadLines", "NoNet", "is_whole", "is_among", "MOST_LINES", "MOST_LAYERS", "need_lines", "is_joint", "is_layer", "need_layers", "need_net", "joints", "moved_up", "side_by_side", "put_behind", "pairs_around", "one_by_one", "doubled", "halves_net", "by_halves", "pairs_net", "by_pairs", "beside"]
def loose1 : List PySem.Str := ["cut", "_law_cell_at", "_law_whole", "_law_place", "_law_thinner", "_law_telling", "_law_lines_by", "_law_made", "_law_rows"]
def loose : List PySem.Str := loose0 ++ loose1
theorem run (w : World) : HandSHeadRun.RunEq R (PySem.W.view R.prog [40]) hk ob 6000 loose w := by
  intro os
  kernel_rfl
theorem bt_of {K : PySem.W.Frag} {h : Heap} {mg : Str → Option Value} (X : K.In h) (Gn : h.Ns mainGlobals mg) (c : He.SaysD fa fn K) (cx : exB K = true) : Bt K mg (ctOf K) where
  len := He.free_ok X Gn (c.fact 35 (f := .free "len") rfl)
  isinstance := He.free_ok X Gn (c.fact 36 (f := .free "isinstance") rfl)
  range := He.free_ok X Gn (c.fact 37 (f := .free "range") rfl)
  int := He.free_ok X Gn (c.fact 38 (f := .free "int") rfl)
  bool := He.free_ok X Gn (c.fact 39 (f := .free "bool") rfl)
  str := He.free_ok X Gn (c.fact 40 (f := .free "str") rfl)
  tuple := He.free_ok X Gn (c.fact 41 (f := .free "tuple") rfl)
  list := He.free_ok X Gn (c.fact 42 (f := .free "list") rfl)
  max := He.free_ok X Gn (c.fact 43 (f := .free "max") rfl)
  min := He.free_ok X Gn (c.fact 44 (f := .free "min") rfl)
  sum := He.free_ok X Gn (c.fact 45 (f := .free "sum") rfl)
  all := He.free_ok X Gn (c.fact 46 (f := .free "all") rfl)
  sorted := He.free_ok X Gn (c.fact 47 (f := .free "sorted") rfl)
  reversed := He.free_ok X Gn (c.fact 48 (f := .free "reversed") rfl)
  zip := He.free_ok X Gn (c.fact 49 (f := .free "zip") rfl)
  abs := He.free_ok X Gn (c.fact 50 (f := .free "abs") rfl)
  x_lines := by
    obtain ⟨e1, e2, e3, e4⟩ := He.exc_ok (c.fact 30 (f := .exc "BadLines") rfl)
    exact ⟨e1, He.glo_ok X Gn (c.fact 29 (f := .glo "BadLines") rfl), e2, e3, e4⟩
  x_nonet := by
    obtain ⟨e1, e2, e3, e4⟩ := He.exc_ok (c.fact 32 (f := .exc "NoNet") rfl)
    exact ⟨e1, He.glo_ok X Gn (c.fact 31 (f := .glo "NoNet") rfl), e2, e3, e4⟩
  c_MOST_LINES := He.int_ok X Gn (c.fact 52 (f := .int "MOST_LINES" 64) rfl)
  c_MOST_LAYERS := He.int_ok X Gn (c.fact 53 (f := .int "MOST_LAYERS" 80) rfl)
theorem facts {P : Program} {w : World} {K : PySem.W.Frag} {h : Heap} {mg : Str → Option Value} {f : Addr} (X : K.In h) (Gn : h.Ns mainGlobals mg) (hfa : mg ("law" : Str) = some (.ref f)) (c : He.SaysD fa fn K) (cx : exB K = true) :
    ∃ fd : FuncData, (∀ (s : Shared) (v : Value), BindsTo s fd ⟨[v], []⟩ [("_law_script", v)]) ∧ ∀ base : Heap, K.In base → base.Ns mainGlobals mg → FnOk P w K mg base (L2.CX P w) 15 f fd ["_law_script"] (spP K (ctOf K) 1 f_law) := by
  have B := bt_of X Gn c cx
  obtain ⟨fd_is_whole, F_is_whole⟩ := c.def_ 0 (d := dd_is_whole) rfl
  have E_is_whole : ∃ fa fd, mg "is_whole" = some (.ref fa) ∧ FunG K "is_whole" s_is_whole fa fd := ⟨_, fd_is_whole, He.glo_ok X Gn (c.fact 0 (f := .glo "is_whole") rfl), F_is_whole⟩
  obtain ⟨fd_is_among, F_is_among⟩ := c.def_ 1 (d := dd_is_among) rfl
  have E_is_among : ∃ fa fd, mg "is_among" = some (.ref fa) ∧ FunG K "is_among" s_is_among fa fd := ⟨_, fd_is_among, He.glo_ok X Gn (c.fact 1 (f := .glo "is_among") rfl), F_is_among⟩
  obtain ⟨fd_need_lines, F_need_lines⟩ := c.def_ 2 (d := dd_need_lines) rfl
  have E_need_lines : ∃ fa fd, mg "need_lines" = some (.ref fa) ∧ FunG K "need_lines" s_need_lines fa fd := ⟨_, fd_need_lines, He.glo_ok X Gn (c.fact 2 (f := .glo "need_lines") rfl), F_need_lines⟩
  obtain ⟨fd_is_joint, F_is_joint⟩ := c.def_ 3 (d := dd_is_joint) rfl
  have E_is_joint : ∃ fa fd, mg "is_joint" = some (.ref fa) ∧ FunG K "is_joint" s_is_joint fa fd := ⟨_, fd_is_joint, He.glo_ok X Gn (c.fact 3 (f := .glo "is_joint") rfl), F_is_joint⟩
  obtain ⟨fd_is_layer, F_is_layer⟩ := c.def_ 4 (d := dd_is_layer) rfl
  have E_is_layer : ∃ fa fd, mg "is_layer" = some (.ref fa) ∧ FunG K "is_layer" s_is_layer fa fd := ⟨_, fd_is_layer, He.glo_ok X Gn (c.fact 4 (f := .glo "is_layer") rfl), F_is_layer⟩
  obtain ⟨fd_need_layers, F_need_layers⟩ := c.def_ 5 (d := dd_need_layers) rfl
  have E_need_layers : ∃ fa fd, mg "need_layers" = some (.ref fa) ∧ FunG K "need_layers" s_need_layers fa fd := ⟨_, fd_need_layers, He.glo_ok X Gn (c.fact 5 (f := .glo "need_layers") rfl), F_need_layers⟩
  obtain ⟨fd_need_net, F_need_net⟩ := c.def_ 6 (d := dd_need_net) rfl
  have E_need_net : ∃ fa fd, mg "need_net" = some (.ref fa) ∧ FunG K "need_net" s_need_net fa fd := ⟨_, fd_need_net, He.glo_ok X Gn (c.fact 6 (f := .glo "need_net") rfl), F_need_net⟩
  obtain ⟨fd_joints, F_joints⟩ := c.def_ 7 (d := dd_joints) rfl
  have E_joints : ∃ fa fd, mg "joints" = some (.ref fa) ∧ FunG K "joints" s_joints fa fd := ⟨_, fd_joints, He.glo_ok X Gn (c.fact 7 (f := .glo "joints") rfl), F_joints⟩
  obtain ⟨fd_moved_up, F_moved_up⟩ := c.def_ 8 (d := dd_moved_up) rfl
  have E_moved_up : ∃ fa fd, mg "moved_up" = some (.ref fa) ∧ FunG K "moved_up" s_moved_up fa fd := ⟨_, fd_moved_up, He.glo_ok X Gn (c.fact 8 (f := .glo "moved_up") rfl), F_moved_up⟩
  obtain ⟨fd_side_by_side, F_side_by_side⟩ := c.def_ 9 (d := dd_side_by_side) rfl
  have E_side_by_side : ∃ fa fd, mg "side_by_side" = some (.ref fa) ∧ FunG K "side_by_side" s_side_by_side fa fd := ⟨_, fd_side_by_side, He.glo_ok X Gn (c.fact 9 (f := .glo "side_by_side") rfl), F_side_by_side⟩
  obtain ⟨fd_put_behind, F_put_behind⟩ := c.def_ 10 (d := dd_put_behind) rfl
  have E_put_behind : ∃ fa fd, mg "put_behind" = some (.ref fa) ∧ FunG K "put_behind" s_put_behind fa fd := ⟨_, fd_put_behind, He.glo_ok X Gn (c.fact 10 (f := .glo "put_behind") rfl), F_put_behind⟩
  obtain ⟨fd_pairs_around, F_pairs_around⟩ := c.def_ 11 (d := dd_pairs_around) rfl
  have E_pairs_around : ∃ fa fd, mg "pairs_around" = some (.ref fa) ∧ FunG K "pairs_around" s_pairs_around fa fd := ⟨_, fd_pairs_around, He.glo_ok X Gn (c.fact 11 (f := .glo "pairs_around") rfl), F_pairs_around⟩
  obtain ⟨fd_one_by_one, F_one_by_one⟩ := c.def_ 12 (d := dd_one_by_one) rfl
  have E_one_by_one : ∃ fa fd, mg "one_by_one" = some (.ref fa) ∧ FunG K "one_by_one" s_one_by_one fa fd := ⟨_, fd_one_by_one, He.glo_ok X Gn (c.fact 12 (f := .glo "one_by_one") rfl), F_one_by_one⟩
  obtain ⟨fd_doubled, F_doubled⟩ := c.def_ 13 (d := dd_doubled) rfl
  have E_doubled : ∃ fa fd, mg "doubled" = some (.ref fa) ∧ FunG K "doubled" s_doubled fa fd := ⟨_, fd_doubled, He.glo_ok X Gn (c.fact 13 (f := .glo "doubled") rfl), F_doubled⟩
  obtain ⟨fd_halves_net, F_halves_net⟩ := c.def_ 14 (d := dd_halves_net) rfl
  have E_halves_net : ∃ fa fd, mg "halves_net" = some (.ref fa) ∧ FunG K "halves_net" s_halves_net fa fd := ⟨_, fd_halves_net, He.glo_ok X Gn (c.fact 14 (f := .glo "halves_net") rfl), F_halves_net⟩
  obtain ⟨fd_by_halves, F_by_halves⟩ := c.def_ 15 (d := dd_by_halves) rfl
  have E_by_halves : ∃ fa fd, mg "by_halves" = some (.ref fa) ∧ FunG K "by_halves" s_by_halves fa fd := ⟨_, fd_by_halves, He.glo_ok X Gn (c.fact 15 (f := .glo "by_halves") rfl), F_by_halves⟩
  obtain ⟨fd_pairs_net, F_pairs_net⟩ := c.def_ 16 (d := dd_pairs_net) rfl
  have E_pairs_net : ∃ fa fd, mg "pairs_net" = some (.ref fa) ∧ FunG K "pairs_net" s_pairs_net fa fd := ⟨_, fd_pairs_net, He.glo_ok X Gn (c.fact 16 (f := .glo "pairs_net") rfl), F_pairs_net⟩
  obtain ⟨fd_by_pairs, F_by_pairs⟩ := c.def_ 17 (d := dd_by_pairs) rfl
  have E_by_pairs : ∃ fa fd, mg "by_pairs" = some (.ref fa) ∧ FunG K "by_pairs" s_by_pairs fa fd := ⟨_, fd_by_pairs, He.glo_ok X Gn (c.fact 17 (f := .glo "by_pairs") rfl), F_by_pairs⟩
  obtain ⟨fd_beside, F_beside⟩ := c.def_ 18 (d := dd_beside) rfl
  have E_beside : ∃ fa fd, mg "beside" = some (.ref fa) ∧ FunG K "beside" s_beside fa fd := ⟨_, fd_beside, He.glo_ok X Gn (c.fact 18 (f := .glo "beside") rfl), F_beside⟩
  obtain ⟨fd_cut, F_cut⟩ := c.def_ 19 (d := dd_cut) rfl
  have E_cut : ∃ fa fd, mg "cut" = some (.ref fa) ∧ FunG K "cut" s_cut fa fd := ⟨_, fd_cut, He.glo_ok X Gn (c.fact 19 (f := .glo "cut") rfl), F_cut⟩
  obtain ⟨fd__law_cell_at, F__law_cell_at⟩ := c.def_ 20 (d := dd__law_cell_at) rfl
  have E__law_cell_at : ∃ fa fd, mg "_law_cell_at" = some (.ref fa) ∧ FunG K "_law_cell_at" s__law_cell_at fa fd := ⟨_, fd__law_cell_at, He.glo_ok X Gn (c.fact 20 (f := .glo "_law_cell_at") rfl), F__law_cell_at⟩
  obtain ⟨fd__law_whole, F__law_whole⟩ := c.def_ 21 (d := dd__law_whole) rfl
  have E__law_whole : ∃ fa fd, mg "_law_whole" = some (.ref fa) ∧ FunG K "_law_whole" s__law_whole fa fd := ⟨_, fd__law_whole, He.glo_ok X Gn (c.fact 21 (f := .glo "_law_whole") rfl), F__law_whole⟩
  obtain ⟨fd__law_place, F__law_place⟩ := c.def_ 22 (d := dd__law_place) rfl
  have E__law_place : ∃ fa fd, mg "_law_place" = some (.ref fa) ∧ FunG K "_law_place" s__law_place fa fd := ⟨_, fd__law_place, He.glo_ok X Gn (c.fact 22 (f := .glo "_law_place") rfl), F__law_place⟩
  obtain ⟨fd__law_thinner, F__law_thinner⟩ := c.def_ 23 (d := dd__law_thinner) rfl
  have E__law_thinner : ∃ fa fd, mg "_law_thinner" = some (.ref fa) ∧ FunG K "_law_thinner" s__law_thinner fa fd := ⟨_, fd__law_thinner, He.glo_ok X Gn (c.fact 23 (f := .glo "_law_thinner") rfl), F__law_thinner⟩
  obtain ⟨fd__law_telling, F__law_telling⟩ := c.def_ 24 (d := dd__law_telling) rfl
  have E__law_telling : ∃ fa fd, mg "_law_telling" = some (.ref fa) ∧ FunG K "_law_telling" s__law_telling fa fd := ⟨_, fd__law_telling, He.glo_ok X Gn (c.fact 24 (f := .glo "_law_telling") rfl), F__law_telling⟩
  obtain ⟨fd__law_lines_by, F__law_lines_by⟩ := c.def_ 25 (d := dd__law_lines_by) rfl
  have E__law_lines_by : ∃ fa fd, mg "_law_lines_by" = some (.ref fa) ∧ FunG K "_law_lines_by" s__law_lines_by fa fd := ⟨_, fd__law_lines_by, He.glo_ok X Gn (c.fact 25 (f := .glo "_law_lines_by") rfl), F__law_lines_by⟩
  obtain ⟨fd__law_made, F__law_made⟩ := c.def_ 26 (d := dd__law_made) rfl
  have E__law_made : ∃ fa fd, mg "_law_made" = some (.ref fa) ∧ FunG K "_law_made" s__law_made fa fd := ⟨_, fd__law_made, He.glo_ok X Gn (c.fact 26 (f := .glo "_law_made") rfl), F__law_made⟩
  obtain ⟨fd__law_rows, F__law_rows⟩ := c.def_ 27 (d := dd__law_rows) rfl
  have E__law_rows : ∃ fa fd, mg "_law_rows" = some (.ref fa) ∧ FunG K "_law_rows" s__law_rows fa fd := ⟨_, fd__law_rows, He.glo_ok X Gn (c.fact 27 (f := .glo "_law_rows") rfl), F__law_rows⟩
  obtain ⟨fd_law, F_law⟩ := c.def_ 28 (d := dd_law) rfl
  have E_law : ∃ fa fd, mg "law" = some (.ref fa) ∧ FunG K "law" s_law fa fd := ⟨_, fd_law, He.glo_ok X Gn (c.fact 28 (f := .glo "law") rfl), F_law⟩
  have e := hfa.symm.trans (He.glo_ok X Gn (c.fact 28 (f := .glo "law") rfl))
  cases e
  have b := FunD.bindsA (ps := ["_law_script"]) F_law fun _ _ _ _ _ _ us hl => match us, hl with | [_], _ => rfl
  refine ⟨fd_law, fun s v => b s [v] rfl, fun base _ _ => ?_⟩
  have H_is_whole := d_is_whole (P := P) (w := w) (base := base) E_is_whole B ⟨trivial⟩
  have H_moved_up := d_moved_up (P := P) (w := w) (base := base) E_moved_up B ⟨trivial⟩
  have H_side_by_side := d_side_by_side (P := P) (w := w) (base := base) E_side_by_side B ⟨trivial⟩
  have H_pairs_around := d_pairs_around (P := P) (w := w) (base := base) E_pairs_around B ⟨trivial⟩
  have H__law_cell_at := d__law_cell_at (P := P) (w := w) (base := base) E__law_cell_at B ⟨trivial⟩
  have H__law_whole := d__law_whole (P := P) (w := w) (base := base) E__law_whole B ⟨trivial⟩
  have H__law_place := d__law_place (P := P) (w := w) (base := base) E__law_place B ⟨trivial⟩
  have H__law_lines_by := d__law_lines_by (P := P) (w := w) (base := base) E__law_lines_by B ⟨trivial⟩
  have H__law_rows := d__law_rows (P := P) (w := w) (base := base) E__law_rows B ⟨trivial⟩
  have H_is_among := d_is_among (P := P) (w := w) (base := base) E_is_among B ⟨H_is_whole, trivial⟩
  have H_put_behind := d_put_behind (P := P) (w := w) (base := base) E_put_behind B ⟨H_moved_up, H_side_by_side, trivial⟩
  have H__law_thinner := d__law_thinner (P := P) (w := w) (base := base) E__law_thinner B ⟨H__law_place, trivial⟩
  have H_need_lines := d_need_lines (P := P) (w := w) (base := base) E_need_lines B ⟨H_is_among, trivial⟩
  have H_is_joint := d_is_joint (P := P) (w := w) (base := base) E_is_joint B ⟨H_is_among, trivial⟩
  have H__law_telling := d__law_telling (P := P) (w := w) (base := base) E__law_telling B ⟨H__law_thinner, H__law_place, trivial⟩
  have H_is_layer := d_is_layer (P := P) (w := w) (base := base) E_is_layer B ⟨H_is_joint, trivial⟩
  have H_one_by_one := d_one_by_one (P := P) (w := w) (base := base) E_one_by_one B ⟨H_need_lines, trivial⟩
  have H_doubled := d_doubled (P := P) (w := w) (base := base) E_doubled B ⟨H_need_lines, trivial⟩
  have H_need_layers := d_need_layers (P := P) (w := w) (base := base) E_need_layers B ⟨H_is_layer, trivial⟩
  have H_need_net := d_need_net (P := P) (w := w) (base := base) E_need_net B ⟨H_need_lines, H_need_layers, trivial⟩
  have H_joints := d_joints (P := P) (w := w) (base := base) E_joints B ⟨H_need_net, trivial⟩
  have H_beside := d_beside (P := P) (w := w) (base := base) E_beside B ⟨H_need_net, H_put_behind, trivial⟩
  have H_cut := d_cut (P := P) (w := w) (base := base) E_cut B ⟨H_need_net, H_is_among, trivial⟩
  have H_pairs_net := d_pairs_net (P := P) (w := w) (base := base) E_pairs_net B ⟨H_pairs_around, trivial⟩
  have H_halves_net := d_halves_net (P := P) (w := w) (base := base) E_halves_net B ⟨H_put_behind, trivial⟩
  have H_by_pairs := d_by_pairs (P := P) (w := w) (base := base) E_by_pairs B ⟨H_need_lines, H_pairs_net, trivial⟩
  have H_by_halves := d_by_halves (P := P) (w := w) (base := base) E_by_halves B ⟨H_need_lines, H_halves_net, trivial⟩
  have H__law_made := d__law_made (P := P) (w := w) (base := base) E__law_made B ⟨H_one_by_one, H_doubled, H_by_halves, H_by_pairs, H__law_telling, H_beside, H_cut, trivial⟩
  exact d_law F_law B ⟨H__law_cell_at, H__law_lines_by, H__law_made, H__law_rows, H_joints, H__law_whole, trivial⟩
end
end LK
open PyProof.Rows PySem PySem.W PySem.Calls
theorem PySem.Challenge.cw_beginnet_k08_whole_layers_and_joints_holds : PySem.Challenge.rw_beginnet_k08_whole_layers_and_joints.Holds := by
  w_on; o_law
  refine HandSHeadRun.head_any (r := OpenLaw.row PySem.Challenge.rw_beginnet_k08_whole_layers_and_joints) (q := view (OpenLaw.row PySem.Challenge.rw_beginnet_k08_whole_layers_and_joints).prog [40]) (H := LK.hk) (ob := LK.ob) (M := 6000) (loose := LK.loose) (d := HandSHeadRun.topDef (OpenLaw.row PySem.Challenge.rw_beginnet_k08_whole_layers_and_joints).prog 40) (kwd := []) LK.ob_eq
    (by kernel_rfl) (fun s => by kernel_rfl) LK.run (by kernel_rfl) (by kernel_rfl) (by kernel_rfl) (by rfl) (by first | assumption | decide +kernel) (by decide +kernel) ⟨rfl, rfl, rfl, rfl, rfl, by decide +kernel⟩ ?hw ?hc
  case hw => w_witness2
  case hc =>
    refine G.walk_own (l := PySem.Challenge.rw_beginnet_k08_whole_layers_and_joints) (n := 63) (k := 15) (x := "_law_script") rfl (by decide) (by kernel_rfl) ⟨rfl, by decide, by decide⟩ ?F
    intro w mg fa h Y Gn hmg0
    obtain ⟨K, KX, c, cx⟩ := Y
    have hmg : mg ("law" : PySem.Str) = some (.ref fa) := by
      have e : (HandSHeadRun.topDef (OpenLaw.row PySem.Challenge.rw_beginnet_k08_whole_layers_and_joints).prog 40).name = ("law" : PySem.Str) := by kernel_rfl
      rw [← e]
      exact hmg0
    obtain ⟨fd, hb, hF⟩ := LK.facts (P := (PySem.Challenge.rw_beginnet_k08_whole_layers_and_joints).prog) (w := w) KX Gn hmg c cx
    exact ⟨K, fd, G.ctOf K, LK.f_law, KX, hb, fun ns hl => LK.law_true ns hl, hF⟩
